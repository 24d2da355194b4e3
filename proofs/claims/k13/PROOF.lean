import PyProof.Rows.All
import Wide.All
import OpenK.AllK
import Wide.FinOn
import HandS.ForMost
import HandS.ForExc
import KE.KDictKeyed
import HandS.Lambda
import HandS.Wide
import HandS.TupAny
import HandS.TupMul
import HandS.IsInst
import HandS.SortInts
import HandS.Defaults
import HandS.TryOnly
import HandS.HotCalls
import HandS.ExcIs
import KE.KDictDisplayH
import HandS.Iter
import KE.KEqDict
import PyProof.NeKinds
import HandS.Conv
import KE.SortData
import HandS.Codes
import HandS.HeadHook4
import HandS.WordsExc
import PyProof.ExcBaseAll.ValueError
import KE.KEqNest
import HandS.Text
import HandS.RaiseMore
import HandS.EndTab
import HandS.Head2
import HandS.HeadEnd
import HandS.Style
import PySem.Challenge.RW_stackforms_k13_errors_apart
set_option Elab.async false
set_option linter.all false
set_option maxRecDepth 100000
set_option maxHeartbeats 2000000
set_option autoImplicit false
/-! DL0: python data D, its denotation in an abstract heap, the relation of a frame's state to data -/
namespace DL
open PySem PySem.Spec PyProof.Rows L2
abbrev St := L2.St

/-- data. dic: a dict whose keys are nested tuples (values flat); dik: keys ints and texts; ins: an instance that never changes; cell: a mutable object by its number; raw: by its very value; scr: the script; mine: a list or dict that this frame alone holds (at slots only); exc: a caught exception, by its class's number -/
inductive D where
  | non | bl (b : Bool) | int (i : Int) | str (x : Str)
  | tup (ds : List D) | lst (ds : List D)
  | dic (kvs : List (NestedKey × V))
  | dik (ks : List Key) (ds : List D)
  | ins (c : Nat) (ds : List D)
  | cell (n : Nat)
  | raw (v : V)
  | scr (ns : List Int)
  | mine (d : D)
  | nk (k : NestedKey)
  | exc (n : Nat)

/-- what stays the same through a law: the program, the written part, the classes of instances, the exceptions' classes -/
structure Ct where
  P : Program
  w : World
  K : PySem.W.Frag
  cls : Nat → Addr
  fld : Nat → List Str
  exc : Nat → Addr
  T : List (Addr × Str)

mutual
def NDen (K : PySem.W.Frag) (F : Hp) : NestedKey → V → Prop
  | .none, v => v = .non
  | .num i, v => v = .int i
  | .text x, v => v = .str x
  | .tup ks, v => ∃ a vs, v = .ref a ∧ (∃ o, F a = some (.frz o (.tup vs)) ∧ o.dict = none) ∧ NDens K F ks vs
def NDens (K : PySem.W.Frag) (F : Hp) : List NestedKey → List V → Prop
  | [], vs => vs = []
  | k :: ks, vs => ∃ v r, vs = v :: r ∧ NDen K F k v ∧ NDens K F ks r
end

/-- the very object -/
def knO (a : Addr) (o : Obj) : HO := .ext fun h => h.get? a = some o
/-- the object o is a dict with the entries kvs, its keys standing in F -/
def DicO (C : Ct) (F : Hp) (o : Obj) (kvs : List (NestedKey × V)) : Prop :=
  ∃ xs : List (NestedKey × Addr × Value), o.ExactDict ∧ (∃ es ep, o.data = .dict es ep ∧ es.toList = xs.map (entryOfKey (nestedKind C.P C.w))) ∧ (xs.map (·.1)).Nodup ∧
    (∀ x ∈ xs, NDen C.K F x.1 (.ref x.2.1) ∧ x.1.depth ≤ 8) ∧ Paired (fun (p : NestedKey × V) (q : NestedKey × Addr × Value) => p.1 = q.1 ∧ RelV p.2 q.2.2) kvs xs

mutual
def Den (C : Ct) (φ : List Addr) (F : Hp) : D → V → Prop
  | .non, v => v = .non
  | .bl b, v => v = .bl b
  | .int i, v => v = .int i
  | .str x, v => v = .str x
  | .tup ds, v => ∃ a vs, v = .ref a ∧ SqT C.K F a vs ∧ Dens C φ F ds vs
  | .lst ds, v => ∃ a vs, v = .ref a ∧ F a = some (.lst vs) ∧ Dens C φ F ds vs
  | .dic kvs, v => ∃ a o, v = .ref a ∧ (a == sysModules) = false ∧ F a = some (knO a o) ∧ DicO C F o kvs
  | .dik ks ds, v => ∃ a vs, v = .ref a ∧ F a = some (.dK (ks.zip vs)) ∧ ks.length = vs.length ∧ ks.Nodup ∧ Dens C φ F ds vs
  | .ins c ds, v => ∃ a dx vs, v = .ref a ∧ F a = some (.ins (C.cls c) dx ((C.fld c).zip vs)) ∧ vs.length ≤ (C.fld c).length ∧ Dens C φ F ds vs
  | .cell n, v => ∃ a, φ[n]? = some a ∧ v = .ref a
  | .raw u, v => v = u
  | .scr ns, v => ∃ a, v = .ref a ∧ SqL C.K F a (ns.map V.int)
  | .mine _, _ => False
  | .nk k, v => NDen C.K F k v
  | .exc n, v => ∃ a oe vs, v = .ref a ∧ F a = some (knO a oe) ∧ oe.cls = .ref (C.exc n) ∧ oe.dict = none ∧ oe.data = .fields vs
def Dens (C : Ct) (φ : List Addr) (F : Hp) : List D → List V → Prop
  | [], vs => vs = []
  | d :: ds, vs => ∃ v r, vs = v :: r ∧ Den C φ F d v ∧ Dens C φ F ds r
end

theorem same_refl (H : Hp) : Same H H := fun _ _ e => e
theorem same_trans {H H1 H2 : Hp} (a : Same H H1) (b : Same H1 H2) : Same H H2 := fun c o e => b c o (a c o e)
theorem same_upd {H : Hp} {p : Addr} {o : HO} (h : H p = none) : Same H (upd H p o) := fun b x e => by
  rw [upd_ne (ne_of_none e h)]
  exact e
theorem sqT_same {K : PySem.W.Frag} {F F' : Hp} (s : Same F F') {a : Addr} {vs : List V} (h : SqT K F a vs) : SqT K F' a vs := by
  rcases h with (h | ⟨o, h⟩) | h
  · exact .inl (.inl (s _ _ h))
  · exact .inl (.inr ⟨o, s _ _ h⟩)
  · exact .inr h
theorem sqL_same {K : PySem.W.Frag} {F F' : Hp} (s : Same F F') {a : Addr} {vs : List V} (h : SqL K F a vs) : SqL K F' a vs := by
  rcases h with (h | ⟨o, h⟩) | h
  · exact .inl (.inl (s _ _ h))
  · exact .inl (.inr ⟨o, s _ _ h⟩)
  · exact .inr h
mutual
theorem NDen.same {K : PySem.W.Frag} {F F' : Hp} (s : Same F F') : ∀ (k : NestedKey) (v : V), NDen K F k v → NDen K F' k v
  | .none, v, h => by simpa only [NDen] using h
  | .num i, v, h => by simpa only [NDen] using h
  | .text x, v, h => by simpa only [NDen] using h
  | .tup ks, v, h => by
    rw [NDen] at h ⊢
    obtain ⟨a, vs, e, hs, hd⟩ := h
    obtain ⟨o, h1, h2⟩ := hs
    exact ⟨a, vs, e, ⟨o, s _ _ h1, h2⟩, NDens.same s ks vs hd⟩
theorem NDens.same {K : PySem.W.Frag} {F F' : Hp} (s : Same F F') : ∀ (ks : List NestedKey) (vs : List V), NDens K F ks vs → NDens K F' ks vs
  | [], vs, h => by simpa only [NDens] using h
  | k :: ks, vs, h => by
    rw [NDens] at h ⊢
    obtain ⟨v, r, e, h1, h2⟩ := h
    exact ⟨v, r, e, NDen.same s k v h1, NDens.same s ks r h2⟩
end
theorem DicO.same {C : Ct} {F F' : Hp} {o : Obj} {kvs : List (NestedKey × V)} (s : Same F F') (h : DicO C F o kvs) : DicO C F' o kvs := by
  obtain ⟨xs, h1, h2, h3, h4, h5⟩ := h
  exact ⟨xs, h1, h2, h3, fun x hx => ⟨NDen.same s _ _ (h4 x hx).1, (h4 x hx).2⟩, h5⟩
theorem pre_get {φ φ' : List Addr} (p : φ <+: φ') {n : Nat} {a : Addr} (h : φ[n]? = some a) : φ'[n]? = some a := by
  obtain ⟨t, rfl⟩ := p
  have hl : n < φ.length := (List.getElem?_eq_some_iff.mp h).1
  rw [List.getElem?_append_left hl]
  exact h
mutual
theorem Den.same {C : Ct} {φ φ' : List Addr} {F F' : Hp} (s : Same F F') (p : φ <+: φ') : ∀ (d : D) (v : V), Den C φ F d v → Den C φ' F' d v
  | .non, v, h => by simpa only [Den] using h
  | .bl b, v, h => by simpa only [Den] using h
  | .int i, v, h => by simpa only [Den] using h
  | .str x, v, h => by simpa only [Den] using h
  | .tup ds, v, h => by
    rw [Den] at h ⊢
    obtain ⟨a, vs, e, hs, hd⟩ := h
    exact ⟨a, vs, e, sqT_same s hs, Dens.same s p ds vs hd⟩
  | .lst ds, v, h => by
    rw [Den] at h ⊢
    obtain ⟨a, vs, e, hs, hd⟩ := h
    exact ⟨a, vs, e, s _ _ hs, Dens.same s p ds vs hd⟩
  | .dic kvs, v, h => by
    rw [Den] at h ⊢
    obtain ⟨a, o, e, hs, hd, hx⟩ := h
    exact ⟨a, o, e, hs, s _ _ hd, hx.same s⟩
  | .dik ks ds, v, h => by
    rw [Den] at h ⊢
    obtain ⟨a, vs, e, hs, hl, hn, hd⟩ := h
    exact ⟨a, vs, e, s _ _ hs, hl, hn, Dens.same s p ds vs hd⟩
  | .ins c ds, v, h => by
    rw [Den] at h ⊢
    obtain ⟨a, dx, vs, e, hs, hl, hd⟩ := h
    exact ⟨a, dx, vs, e, s _ _ hs, hl, Dens.same s p ds vs hd⟩
  | .cell n, v, h => by
    rw [Den] at h ⊢
    obtain ⟨a, e, hv⟩ := h
    exact ⟨a, pre_get p e, hv⟩
  | .raw u, v, h => by simpa only [Den] using h
  | .scr ns, v, h => by
    rw [Den] at h ⊢
    obtain ⟨a, e, hs⟩ := h
    exact ⟨a, e, sqL_same s hs⟩
  | .mine _, v, h => by rw [Den] at h; exact h.elim
  | .nk k, v, h => by rw [Den] at h ⊢; exact NDen.same s k v h
  | .exc n, v, h => by
    rw [Den] at h ⊢
    obtain ⟨a, oe, vs, e, hs, hd⟩ := h
    exact ⟨a, oe, vs, e, s _ _ hs, hd⟩
theorem Dens.same {C : Ct} {φ φ' : List Addr} {F F' : Hp} (s : Same F F') (p : φ <+: φ') : ∀ (ds : List D) (vs : List V), Dens C φ F ds vs → Dens C φ' F' ds vs
  | [], vs, h => by simpa only [Dens] using h
  | d :: ds, vs, h => by
    rw [Dens] at h ⊢
    obtain ⟨v, r, e, h1, h2⟩ := h
    exact ⟨v, r, e, Den.same s p d v h1, Dens.same s p ds r h2⟩
end

theorem Dens.len {C : Ct} {φ : List Addr} {F : Hp} : ∀ {ds : List D} {vs : List V}, Dens C φ F ds vs → ds.length = vs.length
  | [], vs, h => by rw [Dens] at h; rw [h]; rfl
  | d :: ds, vs, h => by
    rw [Dens] at h
    obtain ⟨v, r, rfl, _, h2⟩ := h
    rw [List.length_cons, List.length_cons, Dens.len h2]
theorem Dens.get {C : Ct} {φ : List Addr} {F : Hp} : ∀ {ds : List D} {vs : List V} {i : Nat} {v : V}, Dens C φ F ds vs → vs[i]? = some v → ∃ d, ds[i]? = some d ∧ Den C φ F d v
  | [], vs, i, v, h, e => by rw [Dens] at h; rw [h] at e; simp at e
  | d :: ds, vs, i, v, h, e => by
    rw [Dens] at h
    obtain ⟨u, r, rfl, h1, h2⟩ := h
    cases i with
    | zero => simp at e; subst e; exact ⟨d, rfl, h1⟩
    | succ j => simp at e; simpa using Dens.get h2 e
theorem Dens.at {C : Ct} {φ : List Addr} {F : Hp} : ∀ {ds : List D} {vs : List V} {i : Nat} {d : D}, Dens C φ F ds vs → ds[i]? = some d → ∃ v, vs[i]? = some v ∧ Den C φ F d v
  | [], vs, i, d, h, e => by simp at e
  | d' :: ds, vs, i, d, h, e => by
    rw [Dens] at h
    obtain ⟨u, r, rfl, h1, h2⟩ := h
    cases i with
    | zero => simp at e; subst e; exact ⟨u, rfl, h1⟩
    | succ j => simp at e; simpa using Dens.at h2 e
theorem Dens.app {C : Ct} {φ : List Addr} {F : Hp} : ∀ {ds es : List D} {vs us : List V}, Dens C φ F ds vs → Dens C φ F es us → Dens C φ F (ds ++ es) (vs ++ us)
  | [], es, vs, us, h, h' => by rw [Dens] at h; subst h; exact h'
  | d :: ds, es, vs, us, h, h' => by
    rw [Dens] at h
    obtain ⟨u, r, rfl, h1, h2⟩ := h
    rw [List.cons_append, Dens]
    exact ⟨u, r ++ us, rfl, h1, Dens.app h2 h'⟩
theorem Dens.nil {C : Ct} {φ : List Addr} {F : Hp} : Dens C φ F [] [] := by rw [Dens]
theorem Dens.cons {C : Ct} {φ : List Addr} {F : Hp} {d : D} {ds : List D} {v : V} {vs : List V} (h : Den C φ F d v) (t : Dens C φ F ds vs) : Dens C φ F (d :: ds) (v :: vs) := by
  rw [Dens]; exact ⟨v, vs, rfl, h, t⟩
theorem Dens.one {C : Ct} {φ : List Addr} {F : Hp} {d : D} {v : V} (h : Den C φ F d v) : Dens C φ F [d] [v] := .cons h .nil
theorem Dens.take {C : Ct} {φ : List Addr} {F : Hp} : ∀ {ds : List D} {vs : List V} (n : Nat), Dens C φ F ds vs → Dens C φ F (ds.take n) (vs.take n)
  | [], vs, n, h => by rw [Dens] at h; subst h; simp; exact .nil
  | d :: ds, vs, n, h => by
    rw [Dens] at h
    obtain ⟨u, r, rfl, h1, h2⟩ := h
    cases n with
    | zero => exact .nil
    | succ n => exact .cons h1 (Dens.take n h2)
theorem Dens.drop {C : Ct} {φ : List Addr} {F : Hp} : ∀ {ds : List D} {vs : List V} (n : Nat), Dens C φ F ds vs → Dens C φ F (ds.drop n) (vs.drop n)
  | [], vs, n, h => by rw [Dens] at h; subst h; simp; exact .nil
  | d :: ds, vs, n, h => by
    rw [Dens] at h
    obtain ⟨u, r, rfl, h1, h2⟩ := h
    cases n with
    | zero => exact .cons h1 h2
    | succ n => exact Dens.drop n h2
theorem Dens.set {C : Ct} {φ : List Addr} {F : Hp} {d : D} {v : V} (h : Den C φ F d v) : ∀ {ds : List D} {vs : List V} (n : Nat), Dens C φ F ds vs → Dens C φ F (ds.set n d) (vs.set n v)
  | [], vs, n, h => by rw [Dens] at h; subst h; simp; exact .nil
  | d :: ds, vs, n, h => by
    rw [Dens] at h
    obtain ⟨u, r, rfl, h1, h2⟩ := h
    cases n with
    | zero => exact .cons ‹_› h2
    | succ n => exact .cons h1 (Dens.set ‹_› n h2)

/-- not a table of code objects -/
def NT (o : HO) : Prop := ∀ ps, o ≠ .tbl ps
/-- the tables of code objects T stand in H, what they tell stands in F -/
def TabOk (T : List (Addr × Str)) (F H : Hp) : Prop := ∀ p ∈ T, F p.1 = none ∧ ∃ ps : Array Value, H p.1 = some (.tbl ps) ∧ TriplesOk ps.toList ∧ ∀ (pos : Pos) (cv : Value), codeAmong pos ps.toList = some cv → ∃ c, cv = .ref c ∧ F c = some (LamX.CodeO c p.2)
theorem TabOk.same {T : List (Addr × Str)} {F F' H H' : Hp} (t : TabOk T F H) (s : Same F F') (n : ∀ a ps, H a = some (.tbl ps) → F a = none → F' a = none) (k : ∀ a ps, H a = some (.tbl ps) → H' a = some (.tbl ps)) : TabOk T F' H' := fun p hp => by
  obtain ⟨h0, ps, h1, h2, h3⟩ := t p hp
  refine ⟨n _ _ h1 h0, ps, k _ _ h1, h2, fun pos cv e => ?_⟩
  obtain ⟨c, e1, e2⟩ := h3 pos cv e
  exact ⟨c, e1, s _ _ e2⟩
theorem TabOk.new {T : List (Addr × Str)} {F H : Hp} {a : Addr} {o : HO} (t : TabOk T F H) (hn : H a = none) : TabOk T F (upd H a o) := t.same (same_refl F) (fun _ _ _ z => z) fun b ps e => by
  rw [upd_ne (ne_of_none e hn)]; exact e
theorem TabOk.newF {T : List (Addr × Str)} {F H : Hp} {a : Addr} {o o' : HO} (t : TabOk T F H) (s : Same F (upd F a o')) (hn : H a = none) : TabOk T (upd F a o') (upd H a o) := t.same s (fun b ps e z => by rw [upd_ne (ne_of_none e hn)]; exact z) fun b ps e => by
  rw [upd_ne (ne_of_none e hn)]; exact e
theorem TabOk.frz {T : List (Addr × Str)} {F H : Hp} {a : Addr} {o u : HO} (t : TabOk T F H) (s : Same F (upd F a o)) (hu : H a = some u) (hn : NT u) : TabOk T (upd F a o) H := t.same s (fun b ps e z => by
  have : b ≠ a := fun y => by
    subst y
    rw [hu] at e
    exact hn ps (Option.some.inj e)
  rw [upd_ne this]; exact z) fun b ps e => e
theorem TabOk.upd {T : List (Addr × Str)} {F H : Hp} {a : Addr} {o u : HO} (t : TabOk T F H) (hu : H a = some u) (hn : NT u) : TabOk T F (upd H a o) := t.same (same_refl F) (fun _ _ _ z => z) fun b ps e => by
  have : b ≠ a := fun z => by
    subst z
    rw [hu] at e
    exact hn ps (Option.some.inj e)
  rw [upd_ne this]; exact e
/-- what stands at an owned address -/
def Own (C : Ct) (φ : List Addr) (F H : Hp) (a : Addr) : D → Prop
  | .lst ds => ∃ vs, H a = some (.lst vs) ∧ Dens C φ F ds vs
  | .dic kvs => (a == sysModules) = false ∧ ∃ o, H a = some (knO a o) ∧ DicO C F o kvs
  | .dik ks ds => ∃ vs, H a = some (.dK (ks.zip vs)) ∧ ks.length = vs.length ∧ ks.Nodup ∧ Dens C φ F ds vs
  | .ins c ds => ∃ dx vs, H a = some (.ins (C.cls c) dx ((C.fld c).zip vs)) ∧ vs.length ≤ (C.fld c).length ∧ Dens C φ F ds vs
  | _ => False
theorem Own.ex {C : Ct} {φ : List Addr} {F H : Hp} {a : Addr} {d : D} (h : Own C φ F H a d) : ∃ o, H a = some o := by
  cases d with
  | lst ds => obtain ⟨vs, e, _⟩ := h; exact ⟨_, e⟩
  | dic kvs => obtain ⟨_, o, e, _⟩ := h; exact ⟨_, e⟩
  | dik ks ds => obtain ⟨vs, e, _⟩ := h; exact ⟨_, e⟩
  | ins c ds => obtain ⟨dx, vs, e, _⟩ := h; exact ⟨_, e⟩
  | _ => exact False.elim h
theorem nt_lst {vs : List V} : NT (.lst vs) := fun _ z => by cases z
theorem nt_kn {a : Addr} {o : Obj} : NT (knO a o) := fun _ z => by unfold knO at z; cases z
theorem Own.exN {C : Ct} {φ : List Addr} {F H : Hp} {a : Addr} {d : D} (h : Own C φ F H a d) : ∃ o, H a = some o ∧ NT o := by
  cases d with
  | lst ds => obtain ⟨vs, e, _⟩ := h; exact ⟨_, e, nt_lst⟩
  | dic kvs => obtain ⟨_, o, e, _⟩ := h; exact ⟨_, e, nt_kn⟩
  | dik ks ds => obtain ⟨vs, e, _⟩ := h; exact ⟨_, e, fun _ z => by cases z⟩
  | ins c ds => obtain ⟨dx, vs, e, _⟩ := h; exact ⟨_, e, fun _ z => by cases z⟩
  | _ => exact False.elim h
theorem Own.sameN {C : Ct} {φ φ' : List Addr} {F F' H H' : Hp} {a : Addr} {d : D} (s : Same F F') (p : φ <+: φ') (e : ∀ o, H a = some o → NT o → H' a = some o) (h : Own C φ F H a d) : Own C φ' F' H' a d := by
  cases d with
  | lst ds => obtain ⟨vs, h1, h2⟩ := h; exact ⟨vs, e _ h1 nt_lst, Dens.same s p _ _ h2⟩
  | dic kvs => obtain ⟨h0, o, h1, h2⟩ := h; exact ⟨h0, o, e _ h1 nt_kn, h2.same s⟩
  | dik ks ds => obtain ⟨vs, h1, hl, hn, h2⟩ := h; exact ⟨vs, e _ h1 (fun _ z => by cases z), hl, hn, Dens.same s p _ _ h2⟩
  | ins c ds => obtain ⟨dx, vs, h1, hl, h2⟩ := h; exact ⟨dx, vs, e _ h1 (fun _ z => by cases z), hl, Dens.same s p _ _ h2⟩
  | _ => exact False.elim h
theorem Own.same {C : Ct} {φ φ' : List Addr} {F F' H H' : Hp} {a : Addr} {d : D} (s : Same F F') (p : φ <+: φ') (e : ∀ o, H a = some o → H' a = some o) (h : Own C φ F H a d) : Own C φ' F' H' a d := h.sameN s p fun o z _ => e o z
/-- frozen: what was owned is data -/
theorem Own.den {C : Ct} {φ : List Addr} {F H : Hp} {a : Addr} {d : D} (h : Own C φ F H a d) (hn : F a = none) : ∃ o, H a = some o ∧ Den C φ (upd F a o) d (.ref a) := by
  have s : ∀ o, Same F (upd F a o) := fun o => same_upd hn
  cases d with
  | lst ds => obtain ⟨vs, h1, h2⟩ := h; refine ⟨_, h1, ?_⟩; rw [Den]; exact ⟨a, vs, rfl, upd_same, Dens.same (s _) (List.prefix_refl _) _ _ h2⟩
  | dic kvs => obtain ⟨h0, o, h1, h2⟩ := h; refine ⟨_, h1, ?_⟩; rw [Den]; exact ⟨a, o, rfl, h0, upd_same, h2.same (s _)⟩
  | dik ks ds => obtain ⟨vs, h1, hl, hn', h2⟩ := h; refine ⟨_, h1, ?_⟩; rw [Den]; exact ⟨a, vs, rfl, upd_same, hl, hn', Dens.same (s _) (List.prefix_refl _) _ _ h2⟩
  | ins c ds => obtain ⟨dx, vs, h1, hl, h2⟩ := h; refine ⟨_, h1, ?_⟩; rw [Den]; exact ⟨a, dx, vs, rfl, upd_same, hl, Dens.same (s _) (List.prefix_refl _) _ _ h2⟩
  | _ => exact False.elim h

/-- the mutable cells γ, standing at φ -/
structure CRel (C : Ct) (F : Hp) (φ : List Addr) (H : Hp) (γ : List D) : Prop where
  sub : Same F H
  len : γ.length = φ.length
  nd : φ.Nodup
  cF : ∀ a ∈ φ, F a = none
  cell : ∀ (n : Nat) (d : D) (a : Addr), γ[n]? = some d → φ[n]? = some a → Own C φ F H a d
  tab : TabOk C.T F H
/-- from (F, φ, H) to (F', φ', H'): frozen things stay, what is not a cell stays, what is new is new -/
structure Ext (F : Hp) (φ : List Addr) (H F' : Hp) (φ' : List Addr) (H' : Hp) : Prop where
  f : Same F F'
  p : φ <+: φ'
  k : ∀ a o, H a = some o → a ∉ φ → NT o → H' a = some o
  nF : ∀ a, F' a ≠ none → F a ≠ none ∨ H a = none
  nφ : ∀ a ∈ φ', a ∈ φ ∨ H a = none
  t : ∀ a o, H a = some o → ∃ o', H' a = some o'
theorem Ext.refl (F : Hp) (φ : List Addr) (H : Hp) : Ext F φ H F φ H := ⟨same_refl F, List.prefix_refl _, fun _ _ e _ _ => e, fun _ h => .inl h, fun _ h => .inl h, fun _ o e => ⟨o, e⟩⟩
theorem Ext.trans {F H F1 H1 F2 H2 : Hp} {φ φ1 φ2 : List Addr} (a : Ext F φ H F1 φ1 H1) (b : Ext F1 φ1 H1 F2 φ2 H2) : Ext F φ H F2 φ2 H2 where
  f := same_trans a.f b.f
  p := a.p.trans b.p
  k := fun c o e n t => by
    refine b.k c o (a.k c o e n t) (fun hc => ?_) t
    rcases a.nφ c hc with z | z
    · exact n z
    · rw [e] at z; cases z
  nF := fun c h => by
    rcases b.nF c h with z | z
    · exact a.nF c z
    · refine .inr ?_
      cases q : H c with
      | none => rfl
      | some o =>
        obtain ⟨o', e⟩ := a.t c o q
        rw [e] at z; cases z
  nφ := fun c h => by
    rcases b.nφ c h with z | z
    · exact a.nφ c z
    · refine .inr ?_
      cases q : H c with
      | none => rfl
      | some o =>
        obtain ⟨o', e⟩ := a.t c o q
        rw [e] at z; cases z
  t := fun c o e => by
    obtain ⟨o', e'⟩ := a.t c o e
    exact b.t c o' e'

/-- a def's body: F0, φ0, H0: at the entry -/
structure Fx where
  C : Ct
  F0 : Hp
  φ0 : List Addr
  H0 : Hp
abbrev Env := List (Option D)
/-- the address a is new and this frame's alone -/
structure Alone (B : Fx) (F : Hp) (φ : List Addr) (a : Addr) : Prop where
  f : F a = none
  p : a ∉ φ
  h : B.H0 a = none
structure Rel (B : Fx) (F : Hp) (φ : List Addr) (H : Hp) (ρ : Env) (γ : List D) (σ : St) : Prop where
  c : CRel B.C F φ H γ
  e : Ext B.F0 B.φ0 B.H0 F φ H
  len : ρ.length = σ.length
  fz : ∀ (i : Nat) (d : D), ρ[i]? = some (some d) → (∃ v, σ[i]? = some (some v) ∧ Den B.C φ F d v) ∨ ∃ d' a, d = .mine d' ∧ σ[i]? = some (some (.ref a)) ∧ Alone B F φ a ∧ Own B.C φ F H a d'
  dj : ∀ (i j : Nat) (d e : D) (a : Addr), i ≠ j → ρ[i]? = some (some (.mine d)) → ρ[j]? = some (some (.mine e)) → σ[i]? = some (some (.ref a)) → σ[j]? ≠ some (some (.ref a))
theorem Alone.step {B : Fx} {F F' H H' : Hp} {φ φ' : List Addr} {a : Addr} (x : Ext F φ H F' φ' H') (h : Alone B F φ a) (ex : ∃ o, H a = some o) : Alone B F' φ' a := by
  obtain ⟨o, ho⟩ := ex
  refine ⟨?_, fun z => ?_, h.h⟩
  · cases q : F' a with
    | none => rfl
    | some u =>
      rcases x.nF a (by rw [q]; simp) with z | z
      · exact absurd h.f z
      · rw [ho] at z; cases z
  · rcases x.nφ a z with z | z
    · exact h.p z
    · rw [ho] at z; cases z
/-- a step that leaves the slots alone -/
theorem Rel.step {B : Fx} {F F' H H' : Hp} {φ φ' : List Addr} {ρ : Env} {γ γ' : List D} {σ : St} (R : Rel B F φ H ρ γ σ) (x : Ext F φ H F' φ' H') (c : CRel B.C F' φ' H' γ') : Rel B F' φ' H' ρ γ' σ where
  c := c
  e := R.e.trans x
  len := R.len
  fz := fun i d e => by
    rcases R.fz i d e with ⟨v, h1, h2⟩ | ⟨d', a, h1, h2, h3, h4⟩
    · exact .inl ⟨v, h1, Den.same x.f x.p _ _ h2⟩
    · exact .inr ⟨d', a, h1, h2, h3.step x h4.ex, h4.sameN x.f x.p fun o e t => x.k a o e h3.p t⟩
  dj := R.dj
/-- a new frozen object -/
theorem CRel.lay {C : Ct} {F H : Hp} {φ : List Addr} {γ : List D} {p : Addr} {o : HO} (R : CRel C F φ H γ) (hp : H p = none) : CRel C (upd F p o) φ (upd H p o) γ := by
  have hF : F p = none := by
    cases q : F p with
    | none => rfl
    | some u => rw [R.sub _ _ q] at hp; cases hp
  refine ⟨fun b x e => ?_, R.len, R.nd, fun a ha => ?_, fun n d a e1 e2 => ?_, R.tab.newF (same_upd hF) hp⟩
  · by_cases hb : b = p
    · subst hb; rw [upd_same] at e ⊢; exact e
    · rw [upd_ne hb] at e ⊢; exact R.sub _ _ e
  · obtain ⟨n, hn, e⟩ := List.mem_iff_getElem.mp ha
    have hn' : n < γ.length := by rw [R.len]; exact hn
    obtain ⟨u, hu⟩ := (R.cell n γ[n] a (by simp [hn']) (by simp [hn, e])).ex
    have : a ≠ p := fun z => by rw [z] at hu; rw [hu] at hp; cases hp
    rw [upd_ne this]; exact R.cF a ha
  · refine (R.cell n d a e1 e2).same (same_upd hF) (List.prefix_refl _) fun o' ho => ?_
    rw [upd_ne (ne_of_none ho hp)]; exact ho
theorem ext_lay {F H : Hp} {φ : List Addr} {p : Addr} {o : HO} (s : Same F H) (hp : H p = none) : Ext F φ H (upd F p o) φ (upd H p o) := by
  have hF : F p = none := by
    cases q : F p with
    | none => rfl
    | some u => rw [s _ _ q] at hp; cases hp
  refine ⟨same_upd hF, List.prefix_refl _, fun a u e _ _ => ?_, fun a h => ?_, fun a h => .inl h, fun a u e => ⟨u, ?_⟩⟩
  · rw [upd_ne (ne_of_none e hp)]; exact e
  · by_cases hb : a = p
    · rw [hb]; exact .inr hp
    · rw [upd_ne hb] at h; exact .inl h
  · rw [upd_ne (ne_of_none e hp)]; exact e
theorem Rel.lay {B : Fx} {F H : Hp} {φ : List Addr} {ρ : Env} {γ : List D} {σ : St} {p : Addr} {o : HO} (R : Rel B F φ H ρ γ σ) (hp : H p = none) : Rel B (upd F p o) φ (upd H p o) ρ γ σ :=
  R.step (ext_lay R.c.sub hp) (R.c.lay hp)
theorem Rel.fnone {B : Fx} {F H : Hp} {φ : List Addr} {ρ : Env} {γ : List D} {σ : St} {p : Addr} (R : Rel B F φ H ρ γ σ) (hp : H p = none) : F p = none := by
  cases q : F p with
  | none => rfl
  | some u => rw [R.c.sub _ _ q] at hp; cases hp
end DL

/-! DL1: results, readings by data, expressions -/
namespace DL
open PySem PySem.Spec PyProof.Rows L2

inductive Res (α : Type) where
  | ok (a : α) (γ : List D)
  | err (c : Nat) (γ : List D)
  | stuck
def Res.bind {α β : Type} (r : Res α) (k : α → List D → Res β) : Res β := match r with
  | .ok a γ => k a γ
  | .err c γ => .err c γ
  | .stuck => .stuck
@[simp] theorem Res.bind_ok {α β : Type} (a : α) (γ : List D) (k : α → List D → Res β) : (Res.ok a γ).bind k = k a γ := rfl
@[simp] theorem Res.bind_err {α β : Type} (c : Nat) (γ : List D) (k : α → List D → Res β) : (Res.err c γ : Res α).bind k = .err c γ := rfl
@[simp] theorem Res.bind_stuck {α β : Type} (k : α → List D → Res β) : (Res.stuck : Res α).bind k = .stuck := rfl
def ofOpt {α : Type} (o : Option α) (γ : List D) : Res α := match o with
  | some a => .ok a γ
  | none => .stuck
@[simp] theorem ofOpt_some {α : Type} (a : α) (γ : List D) : ofOpt (some a) γ = .ok a γ := rfl
@[simp] theorem ofOpt_none {α : Type} (γ : List D) : ofOpt (none : Option α) γ = .stuck := rfl

/-- by the slots, the heap ahead, then cells, frozen heap, heap -/
abbrev RR (α β : Type) := Env → St → Hp → List Addr → Hp → Hp → α → β → Prop
class RUp {α β : Type} (R : RR α β) : Prop where
  up : ∀ (ρ : Env) (σ : St) (H H1 : Hp) (φ : List Addr) (F' H' : Hp) (a : α) (b : β), (∀ a o, H a = some o → ∃ o', H1 a = some o') → R ρ σ H1 φ F' H' a b → R ρ σ H φ F' H' a b
section
variable {α β α' β' : Type} {B : Fx} {W : WX}
def Post (B : Fx) (W : WX) (R : RR α β) (F : Hp) (φ : List Addr) (H : Hp) (ρ : Env) (σ : St) (r : Res α) (Q : β → Hp → Prop) : Prop := match r with
  | .ok a γ' => ∀ b F' φ' H', Ext F φ H F' φ' H' → Rel B F' φ' H' ρ γ' σ → R ρ σ H φ' F' H' a b → Q b H'
  | .err c γ' => ∀ F' φ' H', Ext F φ H F' φ' H' → Rel B F' φ' H' ρ γ' σ → W (.ref (B.C.exc c)) none σ H'
  | .stuck => False
def tG (B : Fx) (W : WX) (R : RR α β) (f : Env → List D → Res α) : St → Hp → (β → Hp → Prop) → Prop := fun σ H Q => ∃ F φ ρ γ, Rel B F φ H ρ γ σ ∧ Post B W R F φ H ρ σ (f ρ γ) Q
theorem Post.up {R : RR α β} [RUp R] {F F' H H' : Hp} {φ φ' : List Addr} {ρ : Env} {σ : St} {r : Res α} {Q : β → Hp → Prop} (x : Ext F φ H F' φ' H') (h : Post B W R F φ H ρ σ r Q) : Post B W R F' φ' H' ρ σ r Q := by
  cases r with
  | ok a γ => exact fun b F2 φ2 H2 x2 r q => h b F2 φ2 H2 (x.trans x2) r (RUp.up _ _ _ _ _ _ _ _ _ x.t q)
  | err c γ => exact fun F2 φ2 H2 x2 => h F2 φ2 H2 (x.trans x2)
  | stuck => exact h
/-- first fa, then the rest -/
theorem run1 {R1 : RR α β} {R2 : RR α' β'} [RUp R2] {fa : Env → List D → Res α} {k : α → List D → Res α'} {F H : Hp} {φ : List Addr} {ρ : Env} {γ : List D} {σ : St} {Q1 : β → Hp → Prop} {Q2 : β' → Hp → Prop}
    (R : Rel B F φ H ρ γ σ) (P : Post B W R2 F φ H ρ σ ((fa ρ γ).bind k) Q2)
    (hk : ∀ a γ' b F' φ' H', Ext F φ H F' φ' H' → Rel B F' φ' H' ρ γ' σ → R1 ρ σ H φ' F' H' a b → Post B W R2 F' φ' H' ρ σ (k a γ') Q2 → Q1 b H') : tG B W R1 fa σ H Q1 := by
  refine ⟨F, φ, ρ, γ, R, ?_⟩
  cases e : fa ρ γ with
  | ok a γ1 =>
    rw [e] at P
    exact fun b F' φ' H' x R' r => hk a γ1 b F' φ' H' x R' r (Post.up (r := k a γ1) x P)
  | err c γ1 =>
    rw [e] at P
    exact P
  | stuck =>
    rw [e] at P
    exact P.elim
end

/-! ### what a value is -/
def Pk (B : Fx) (ρ : Env) (σ : St) (φ : List Addr) (F : Hp) (d : D) (v : V) : Prop := Den B.C φ F d v ∨ ∃ i : Nat, ρ[i]? = some (some (.mine d)) ∧ σ[i]? = some (some v)
inductive Pks (B : Fx) (ρ : Env) (σ : St) (φ : List Addr) (F : Hp) : List D → List V → Prop
  | nil : Pks B ρ σ φ F [] []
  | cons {d : D} {ds : List D} {v : V} {vs : List V} : Pk B ρ σ φ F d v → Pks B ρ σ φ F ds vs → Pks B ρ σ φ F (d :: ds) (v :: vs)
def rDen (B : Fx) : RR D V := fun _ _ _ φ F _ d v => Den B.C φ F d v
def rDens (B : Fx) : RR (List D) (List V) := fun _ _ _ φ F _ ds vs => Dens B.C φ F ds vs
def rPk (B : Fx) : RR D V := fun ρ σ _ φ F _ d v => Pk B ρ σ φ F d v
def rPks (B : Fx) : RR (List D) (List V) := fun ρ σ _ φ F _ ds vs => Pks B ρ σ φ F ds vs
/-- a new list or dict, held by nothing yet -/
def rFr (B : Fx) : RR D V := fun ρ σ H0 φ F H d v => ∃ a, v = .ref a ∧ Alone B F φ a ∧ Own B.C φ F H a d ∧ (∀ (j : Nat) (d' : D), ρ[j]? = some (some (.mine d')) → σ[j]? ≠ some (some (.ref a))) ∧ H0 a = none
def rBl : RR Bool Bool := fun _ _ _ _ _ _ a b => a = b
instance (B : Fx) : RUp (rDen B) := ⟨fun _ _ _ _ _ _ _ _ _ _ h => h⟩
instance (B : Fx) : RUp (rDens B) := ⟨fun _ _ _ _ _ _ _ _ _ _ h => h⟩
instance (B : Fx) : RUp (rPk B) := ⟨fun _ _ _ _ _ _ _ _ _ _ h => h⟩
instance (B : Fx) : RUp (rPks B) := ⟨fun _ _ _ _ _ _ _ _ _ _ h => h⟩
instance : RUp rBl := ⟨fun _ _ _ _ _ _ _ _ _ _ h => h⟩
instance (B : Fx) : RUp (rFr B) := ⟨fun _ _ H H1 _ _ _ _ _ t ⟨a, h1, h2, h3, h4, h5⟩ => ⟨a, h1, h2, h3, h4, by
  cases q : H a with
  | none => rfl
  | some o =>
    obtain ⟨o', e⟩ := t a o q
    rw [h5] at e; cases e⟩⟩
abbrev ESem := Env → List D → Res D
abbrev tE (B : Fx) (W : WX) (f : ESem) : TE := tG B W (rDen B) f
abbrev tP (B : Fx) (W : WX) (f : ESem) : TE := tG B W (rPk B) f
abbrev tF (B : Fx) (W : WX) (f : ESem) : TE := tG B W (rFr B) f
abbrev tA (B : Fx) (W : WX) (f : Env → List D → Res (List D)) : TA := tG B W (rDens B) f
abbrev tPs (B : Fx) (W : WX) (f : Env → List D → Res (List D)) : TA := tG B W (rPks B) f
abbrev tT (B : Fx) (W : WX) (f : Env → List D → Res Bool) : TT := tG B W rBl f
theorem Pk.up {B : Fx} {ρ : Env} {σ : St} {φ φ' : List Addr} {F F' : Hp} {d : D} {v : V} (s : Same F F') (p : φ <+: φ') (h : Pk B ρ σ φ F d v) : Pk B ρ σ φ' F' d v := by
  rcases h with h | h
  · exact .inl (Den.same s p _ _ h)
  · exact .inr h
theorem Pks.up {B : Fx} {ρ : Env} {σ : St} {φ φ' : List Addr} {F F' : Hp} (s : Same F F') (p : φ <+: φ') : ∀ {ds : List D} {vs : List V}, Pks B ρ σ φ F ds vs → Pks B ρ σ φ' F' ds vs
  | _, _, .nil => .nil
  | _, _, .cons h t => .cons (h.up s p) (Pks.up s p t)
theorem Dens.pks {B : Fx} {ρ : Env} {σ : St} {φ : List Addr} {F : Hp} : ∀ {ds : List D} {vs : List V}, Dens B.C φ F ds vs → Pks B ρ σ φ F ds vs
  | [], vs, h => by rw [Dens] at h; subst h; exact .nil
  | d :: ds, vs, h => by
    rw [Dens] at h
    obtain ⟨v, r, rfl, h1, h2⟩ := h
    exact .cons (.inl h1) (Dens.pks h2)

section
variable {X : Cx} {B : Fx} {W : WX}
theorem PE.imp {e : Expr} {t t' : TE} (h : PE X e t) (i : ∀ σ H Q, t' σ H Q → t σ H Q) : PE X e t' := ⟨fun pins s σ H Q I q => h.run pins s σ H Q I (i σ H Q q)⟩
theorem PT.imp {e : Expr} {t t' : TT} (h : PT X e t) (i : ∀ σ H Q, t' σ H Q → t σ H Q) : PT X e t' := ⟨fun pins s σ H Q I q => h.run pins s σ H Q I (i σ H Q q)⟩
theorem PW.imp {e : Expr} {t t' : TT} (h : PW X e t) (i : ∀ σ H Q, t' σ H Q → t σ H Q) : PW X e t' := ⟨fun wh pins s σ H Q I q => h.run wh pins s σ H Q I (i σ H Q q)⟩
theorem PA.imp {es : List Expr} {t t' : TA} (h : PA X es t) (i : ∀ σ H Q, t' σ H Q → t σ H Q) : PA X es t' := ⟨fun pos pins s σ H Q I q => h.run pos pins s σ H Q I (i σ H Q q)⟩
theorem PS.imp {st : Stmt} {t t' : TS} (h : PS X st t) (i : ∀ D σ H, t' D σ H → t D σ H) : PS X st t' := ⟨fun pins s σ H D I q => h.run pins s σ H D I (i D σ H q)⟩
theorem PSs.imp {st : List Stmt} {t t' : TS} (h : PSs X st t) (i : ∀ D σ H, t' D σ H → t D σ H) : PSs X st t' := ⟨fun pins s σ H D I q => h.run pins s σ H D I (i D σ H q)⟩

/-- weaker relation -/
theorem tG_weak {α β : Type} {R R' : RR α β} {f : Env → List D → Res α} (h : ∀ ρ σ H0 φ F H a b, R' ρ σ H0 φ F H a b → R ρ σ H0 φ F H a b) {σ : St} {H : Hp} {Q : β → Hp → Prop} (q : tG B W R f σ H Q) : tG B W R' f σ H Q := by
  obtain ⟨F, φ, ρ, γ, R0, P⟩ := q
  refine ⟨F, φ, ρ, γ, R0, ?_⟩
  cases e : f ρ γ with
  | ok a γ1 => rw [e] at P; exact fun b F' φ' H' x r1 r2 => P b F' φ' H' x r1 (h _ _ _ _ _ _ _ _ r2)
  | err c γ1 => rw [e] at P; exact P
  | stuck => rw [e] at P; exact P
/-- data may be looked at -/
theorem dp {e : Expr} {f : ESem} (h : PE X e (tE B W f)) : PE X e (tP B W f) := PE.imp h fun _ _ _ q => tG_weak (fun _ _ _ _ _ _ _ _ z => .inl z) q
/-- what is new may be frozen -/
theorem Rel.freeze {F H : Hp} {φ : List Addr} {ρ : Env} {γ : List D} {σ : St} {a : Addr} {d : D} (R : Rel B F φ H ρ γ σ) (al : Alone B F φ a) (ow : Own B.C φ F H a d) (nj : ∀ (j : Nat) (d' : D), ρ[j]? = some (some (.mine d')) → σ[j]? ≠ some (some (.ref a))) :
    ∃ o, H a = some o ∧ Rel B (upd F a o) φ H ρ γ σ ∧ Den B.C φ (upd F a o) d (.ref a) := by
  obtain ⟨o, ho, hd⟩ := ow.den al.f
  have hnt : NT o := by
    obtain ⟨o', e, n⟩ := ow.exN
    rw [ho] at e; cases e; exact n
  refine ⟨o, ho, ⟨⟨fun b x e => ?_, R.c.len, R.c.nd, fun b hb => ?_, fun n d' b e1 e2 => ?_, R.c.tab.frz (same_upd al.f) ho hnt⟩, ⟨same_trans R.e.f (same_upd al.f), R.e.p, R.e.k, fun b hb => ?_, R.e.nφ, R.e.t⟩, R.len, fun i d' e => ?_, R.dj⟩, hd⟩
  · by_cases hb : b = a
    · subst hb; rw [upd_same] at e; rw [← e]; exact ho
    · rw [upd_ne hb] at e; exact R.c.sub _ _ e
  · have : b ≠ a := fun z => al.p (z ▸ hb)
    rw [upd_ne this]; exact R.c.cF b hb
  · exact (R.c.cell n d' b e1 e2).same (same_upd al.f) (List.prefix_refl _) fun _ z => z
  · by_cases hz : b = a
    · rw [hz]; exact .inr al.h
    · rw [upd_ne hz] at hb; exact R.e.nF b hb
  · rcases R.fz i d' e with ⟨v, h1, h2⟩ | ⟨d2, b, rfl, h2, h3, h4⟩
    · exact .inl ⟨v, h1, Den.same (same_upd al.f) (List.prefix_refl _) _ _ h2⟩
    · have hb : b ≠ a := fun z => nj i d2 e (by rw [h2, z])
      exact .inr ⟨d2, b, rfl, h2, ⟨by rw [upd_ne hb]; exact h3.f, h3.p, h3.h⟩, h4.same (same_upd al.f) (List.prefix_refl _) fun _ z => z⟩
theorem de_fr {e : Expr} {f : ESem} (h : PE X e (tF B W f)) : PE X e (tE B W f) := PE.imp h fun σ H Q q => by
  obtain ⟨F, φ, ρ, γ, R0, P⟩ := q
  refine ⟨F, φ, ρ, γ, R0, ?_⟩
  cases e : f ρ γ with
  | ok a γ1 =>
    rw [e] at P
    intro b F' φ' H' x r1 r2
    obtain ⟨a', rfl, al, ow, nj, n0⟩ := r2
    obtain ⟨o, ho, r3, hd⟩ := r1.freeze al ow nj
    exact P _ _ φ' H' ⟨same_trans x.f (same_upd al.f), x.p, x.k, fun b hb => (Decidable.em (b = a')).elim (fun z => by rw [z]; exact .inr n0) fun z => x.nF b (by rw [upd_ne z] at hb; exact hb), x.nφ, x.t⟩ r3 hd
  | err c γ1 => rw [e] at P; exact P
  | stuck => rw [e] at P; exact P

/-! ### names, constants -/
def eVar (i : Nat) : ESem := fun ρ γ => match ρ[i]? with
  | some (some (.mine _)) => .stuck
  | some (some d) => .ok d γ
  | _ => .stuck
/-- a slot to be looked at, one's own or not -/
def eLook (i : Nat) : ESem := fun ρ γ => match ρ[i]? with
  | some (some (.mine d)) => .ok d γ
  | some (some d) => .ok d γ
  | _ => .stuck
def eC (d : D) : ESem := fun _ γ => .ok d γ
theorem de_var {i : Nat} {x : Str} {pos : Pos} (hN : X.N[i]? = some x) (hv : Vis X.env.scope x) (hd : (x == ("__debug__" : Str)) = false := by decide) (hcd : (x == ("__classdict__" : Str)) = false := by decide) : PE X (.Name x pos) (tE B W (eVar i)) :=
  PE.imp (pe_var hN hv hd hcd) fun σ H Q ⟨F, φ, ρ, γ, R, P⟩ => by
    unfold eVar at P
    cases e : ρ[i]? with
    | none => rw [e] at P; exact P.elim
    | some o =>
      cases o with
      | none => rw [e] at P; exact P.elim
      | some d =>
        rw [e] at P
        rcases R.fz i d e with ⟨v, h1, h2⟩ | ⟨d', a, rfl, _⟩
        · cases d with
          | mine d' => exact P.elim
          | _ => exact ⟨v, h1, P v F φ H (Ext.refl _ _ _) R h2⟩
        · exact P.elim
theorem dp_look {i : Nat} {x : Str} {pos : Pos} (hN : X.N[i]? = some x) (hv : Vis X.env.scope x) (hd : (x == ("__debug__" : Str)) = false := by decide) (hcd : (x == ("__classdict__" : Str)) = false := by decide) : PE X (.Name x pos) (tP B W (eLook i)) :=
  PE.imp (pe_var hN hv hd hcd) fun σ H Q ⟨F, φ, ρ, γ, R, P⟩ => by
    unfold eLook at P
    cases e : ρ[i]? with
    | none => rw [e] at P; exact P.elim
    | some o =>
      cases o with
      | none => rw [e] at P; exact P.elim
      | some d =>
        rw [e] at P
        rcases R.fz i d e with ⟨v, h1, h2⟩ | ⟨d', a, rfl, h2, _⟩
        · cases d with
          | mine d' => rw [Den] at h2; exact h2.elim
          | _ => exact ⟨v, h1, P v F φ H (Ext.refl _ _ _) R (.inl h2)⟩
        · exact ⟨_, h2, P _ F φ H (Ext.refl _ _ _) R (.inr ⟨i, e, h2⟩)⟩
theorem de_c {e : Expr} {v : V} {d : D} (h : PE X e (tC v)) (hd : ∀ φ F, Den B.C φ F d v) : PE X e (tE B W (eC d)) :=
  PE.imp h fun σ H Q ⟨F, φ, ρ, γ, R, P⟩ => P v F φ H (Ext.refl _ _ _) R (hd φ F)
theorem de_int {i : Int} {j : Nat} {pos : Pos} : PE X (.Constant (.int i) j pos) (tE B W (eC (.int i))) := de_c pe_int fun _ _ => by rw [Den]
theorem de_bl {b : Bool} {j : Nat} {pos : Pos} : PE X (.Constant (.bool b) j pos) (tE B W (eC (.bl b))) := de_c pe_bl fun _ _ => by rw [Den]
theorem de_non {j : Nat} {pos : Pos} : PE X (.Constant .none j pos) (tE B W (eC .non)) := de_c pe_non fun _ _ => by rw [Den]
theorem de_str {x : Str} {j : Nat} {pos : Pos} : PE X (.Constant (.str x) j pos) (tE B W (eC (.str x))) := de_c pe_str fun _ _ => by rw [Den]
/-- a module's constant -/
theorem de_glob {x : Str} {v : V} {u : Value} {d : D} {pos : Pos} (hg : Gl X x) (hm : X.mg x = some u) (r : RelV v u) (hD : ∀ φ F, Den B.C φ F d v) (hd : (x == ("__debug__" : Str)) = false := by decide) : PE X (.Name x pos) (tE B W (eC d)) := de_c (pe_glob hg hm r hd) hD
theorem de_bltn {x : Str} {v : V} {u : Value} {pos : Pos} (hg : Gl X x) (hm : X.mg x = none) (hv : bootBuiltins x = some u) (r : RelV v u) (hn : x ≠ "__name__" := by decide) (hd : (x == ("__debug__" : Str)) = false := by decide) : PE X (.Name x pos) (tE B W (eC (.raw v))) :=
  de_c (pe_bltn hg hm hv r hn hd) fun _ _ => by rw [Den]

/-! ### arguments -/
def aNil : Env → List D → Res (List D) := fun _ γ => .ok [] γ
def aCons (f : ESem) (g : Env → List D → Res (List D)) : Env → List D → Res (List D) := fun ρ γ => (f ρ γ).bind fun d γ => (g ρ γ).bind fun ds γ => .ok (d :: ds) γ
theorem da_nil : PA X [] (tA B W aNil) := PA.imp pa_nil fun σ H Q ⟨F, φ, ρ, γ, R, P⟩ => P [] F φ H (Ext.refl _ _ _) R .nil
theorem da_cons {e : Expr} {es : List Expr} {f : ESem} {g : Env → List D → Res (List D)} (he : PE X e (tE B W f)) (hs : PA X es (tA B W g)) (h : starEach (e :: es) X.env = (false, eval e X.env) :: starEach es X.env := by rfl) : PA X (e :: es) (tA B W (aCons f g)) :=
  PA.imp (pa_cons he hs h) fun σ H Q ⟨F, φ, ρ, γ, R, P⟩ => by
    refine run1 R P fun d γ1 v F1 φ1 H1 x1 R1 d1 P1 => ?_
    refine run1 R1 P1 fun ds γ2 vs F2 φ2 H2 x2 R2 d2 P2 => ?_
    exact P2 _ F2 φ2 H2 (Ext.refl _ _ _) R2 (.cons (Den.same x2.f x2.p _ _ d1) d2)
theorem dps_nil : PA X [] (tPs B W aNil) := PA.imp pa_nil fun σ H Q ⟨F, φ, ρ, γ, R, P⟩ => P [] F φ H (Ext.refl _ _ _) R .nil
theorem dps_cons {e : Expr} {es : List Expr} {f : ESem} {g : Env → List D → Res (List D)} (he : PE X e (tP B W f)) (hs : PA X es (tPs B W g)) (h : starEach (e :: es) X.env = (false, eval e X.env) :: starEach es X.env := by rfl) : PA X (e :: es) (tPs B W (aCons f g)) :=
  PA.imp (pa_cons he hs h) fun σ H Q ⟨F, φ, ρ, γ, R, P⟩ => by
    refine run1 R P fun d γ1 v F1 φ1 H1 x1 R1 d1 P1 => ?_
    refine run1 R1 P1 fun ds γ2 vs F2 φ2 H2 x2 R2 d2 P2 => ?_
    exact P2 _ F2 φ2 H2 (Ext.refl _ _ _) R2 (.cons (Pk.up x2.f x2.p d1) d2)

/-! ### displays -/
def eTup (f : Env → List D → Res (List D)) : ESem := fun ρ γ => (f ρ γ).bind fun ds γ => .ok (.tup ds) γ
def eLst (f : Env → List D → Res (List D)) : ESem := fun ρ γ => (f ρ γ).bind fun ds γ => .ok (.lst ds) γ
/-- room: displays are short -/
def Few (es : List Expr) : Prop := es.length ≤ 1000
theorem SZ : (1000000 : Nat) ≤ sizeLine := by rw [sizeLine_eq]; decide
theorem aLen {es : List Expr} {f : Env → List D → Res (List D)} : True := trivial
def aLim (n : Nat) (f : Env → List D → Res (List D)) : Env → List D → Res (List D) := fun ρ γ => (f ρ γ).bind fun ds γ => if ds.length ≤ n then .ok ds γ else .stuck
theorem de_tup {es : List Expr} {k : Nat} {pos : Pos} {f : Env → List D → Res (List D)} (h : PA X es (tA B W f)) : PE X (.Tuple es k pos) (tE B W (eTup (aLim 1000000 f))) :=
  PE.imp (pe_tup h) fun σ H Q ⟨F, φ, ρ, γ, R, P⟩ => by
    unfold eTup aLim at P
    have P' : Post B W (rDen B) F φ H ρ σ ((f ρ γ).bind fun ds γ => (if ds.length ≤ 1000000 then Res.ok ds γ else .stuck : Res (List D)).bind fun ds γ => .ok (.tup ds) γ) Q := by
      cases e : f ρ γ <;> rw [e] at P <;> exact P
    refine run1 R P' fun ds γ1 vs F1 φ1 H1 x1 R1 d1 P1 => ?_
    have d1 : Dens B.C φ1 F1 ds vs := d1
    by_cases hl : ds.length ≤ 1000000
    · rw [if_pos hl] at P1
      refine ⟨by rw [← d1.len]; exact Nat.le_trans hl SZ, fun p hp => ?_⟩
      have hF : F1 p = none := R1.fnone hp
      refine P1 _ (upd F1 p (.tup vs)) φ1 _ (ext_lay R1.c.sub hp) (R1.lay hp) ?_
      show Den _ _ _ _ _
      rw [Den]
      exact ⟨p, vs, rfl, .inl (.inl upd_same), Dens.same (same_upd hF) (List.prefix_refl _) _ _ d1⟩
    · rw [if_neg hl] at P1; exact P1.elim
/-- a new object that is not frozen yet -/
theorem Rel.layH {F H : Hp} {φ : List Addr} {ρ : Env} {γ : List D} {σ : St} {p : Addr} {o : HO} (R : Rel B F φ H ρ γ σ) (hp : H p = none) :
    Ext F φ H F φ (upd H p o) ∧ Rel B F φ (upd H p o) ρ γ σ ∧ Alone B F φ p ∧ ∀ (j : Nat) (d' : D), ρ[j]? = some (some (.mine d')) → σ[j]? ≠ some (some (.ref p)) := by
  have hF : F p = none := R.fnone hp
  have kp : ∀ b u, H b = some u → upd H p o b = some u := fun b u e => by rw [upd_ne (ne_of_none e hp)]; exact e
  have x : Ext F φ H F φ (upd H p o) := ⟨same_refl F, List.prefix_refl _, fun a u e _ _ => kp a u e, fun a h => .inl h, fun a h => .inl h, fun a u e => ⟨u, kp a u e⟩⟩
  refine ⟨x, R.step x ⟨fun b u e => kp b u (R.c.sub b u e), R.c.len, R.c.nd, R.c.cF, fun n d a e1 e2 => (R.c.cell n d a e1 e2).same (same_refl F) (List.prefix_refl _) fun u e => kp a u e, R.c.tab.new hp⟩, ⟨hF, fun z => ?_, ?_⟩, fun j d' e z => ?_⟩
  · obtain ⟨n, hn, e⟩ := List.mem_iff_getElem.mp z
    have hn' : n < γ.length := by rw [R.c.len]; exact hn
    obtain ⟨u, hu⟩ := (R.c.cell n γ[n] p (by simp [hn']) (by simp [hn, e])).ex
    rw [hp] at hu; cases hu
  · cases q : B.H0 p with
    | none => rfl
    | some u =>
      obtain ⟨u', e⟩ := R.e.t p u q
      rw [hp] at e; cases e
  · rcases R.fz j _ e with ⟨v, _, h2⟩ | ⟨d2, a, _, h2, _, h4⟩
    · rw [Den] at h2; exact h2
    · rw [z] at h2
      have : p = a := by injection h2 with h2; injection h2 with h2; injection h2
      subst this
      obtain ⟨u, hu⟩ := h4.ex
      rw [hp] at hu; cases hu
theorem df_lst {es : List Expr} {pos : Pos} {f : Env → List D → Res (List D)} (h : PA X es (tA B W f)) : PE X (.List es pos) (tF B W (eLst (aLim 1000000 f))) :=
  PE.imp (pe_lst h) fun σ H Q ⟨F, φ, ρ, γ, R, P⟩ => by
    unfold eLst aLim at P
    have P' : Post B W (rFr B) F φ H ρ σ ((f ρ γ).bind fun ds γ => (if ds.length ≤ 1000000 then Res.ok ds γ else .stuck : Res (List D)).bind fun ds γ => .ok (.lst ds) γ) Q := by
      cases e : f ρ γ <;> rw [e] at P <;> exact P
    refine run1 R P' fun ds γ1 vs F1 φ1 H1 x1 R1 d1 P1 => ?_
    have d1 : Dens B.C φ1 F1 ds vs := d1
    by_cases hl : ds.length ≤ 1000000
    · rw [if_pos hl] at P1
      refine ⟨by rw [← d1.len]; exact Nat.le_trans hl SZ, fun p hp => ?_⟩
      obtain ⟨x2, R2, al, nj⟩ := R1.layH (o := .lst vs) hp
      exact P1 _ F1 φ1 _ x2 R2 ⟨p, rfl, al, ⟨vs, upd_same, d1⟩, nj, hp⟩
    · rw [if_neg hl] at P1; exact P1.elim
end
end DL

/-! DL2: operators, comparisons, tests, subscripts, calls of built-ins -/
namespace DL
open PySem PySem.Spec PyProof.Rows L2

/-- the wish is met by every value of d -/
def Gv (B : Fx) (F : Hp) (φ : List Addr) (H : Hp) (ρ : Env) (γ : List D) (σ : St) (d : D) (Q : VK) : Prop := ∀ v F' φ' H', Ext F φ H F' φ' H' → Rel B F' φ' H' ρ γ σ → Den B.C φ' F' d v → Q v H'
theorem Gv.now {B : Fx} {F H : Hp} {φ : List Addr} {ρ : Env} {γ : List D} {σ : St} {d : D} {Q : VK} {v : V} (g : Gv B F φ H ρ γ σ d Q) (R : Rel B F φ H ρ γ σ) (h : Den B.C φ F d v) : Q v H := g v F φ H (Ext.refl _ _ _) R h
theorem Gv.tup {B : Fx} {F H : Hp} {φ : List Addr} {ρ : Env} {γ : List D} {σ : St} {ds : List D} {vs : List V} {Q : VK} {p : Addr} (g : Gv B F φ H ρ γ σ (.tup ds) Q) (R : Rel B F φ H ρ γ σ) (h : Dens B.C φ F ds vs) (hp : H p = none) : Q (.ref p) (upd H p (.tup vs)) := by
  have hF : F p = none := R.fnone hp
  refine g _ (upd F p (.tup vs)) φ _ (ext_lay R.c.sub hp) (R.lay hp) ?_
  rw [Den]
  exact ⟨p, vs, rfl, .inl (.inl upd_same), Dens.same (same_upd hF) (List.prefix_refl _) _ _ h⟩
theorem Gv.lst {B : Fx} {F H : Hp} {φ : List Addr} {ρ : Env} {γ : List D} {σ : St} {ds : List D} {vs : List V} {Q : VK} {p : Addr} (g : Gv B F φ H ρ γ σ (.lst ds) Q) (R : Rel B F φ H ρ γ σ) (h : Dens B.C φ F ds vs) (hp : H p = none) : Q (.ref p) (upd H p (.lst vs)) := by
  have hF : F p = none := R.fnone hp
  refine g _ (upd F p (.lst vs)) φ _ (ext_lay R.c.sub hp) (R.lay hp) ?_
  rw [Den]
  exact ⟨p, vs, rfl, upd_same, Dens.same (same_upd hF) (List.prefix_refl _) _ _ h⟩
/-- a new list, not frozen -/
def Gf (B : Fx) (F : Hp) (φ : List Addr) (H : Hp) (ρ : Env) (γ : List D) (σ : St) (d : D) (Q : VK) : Prop := ∀ v F' φ' H', Ext F φ H F' φ' H' → Rel B F' φ' H' ρ γ σ → rFr B ρ σ H φ' F' H' d v → Q v H'
theorem Gf.lst {B : Fx} {F H : Hp} {φ : List Addr} {ρ : Env} {γ : List D} {σ : St} {ds : List D} {vs : List V} {Q : VK} {p : Addr} (g : Gf B F φ H ρ γ σ (.lst ds) Q) (R : Rel B F φ H ρ γ σ) (h : Dens B.C φ F ds vs) (hp : H p = none) : Q (.ref p) (upd H p (.lst vs)) := by
  obtain ⟨x2, R2, al, nj⟩ := R.layH (o := .lst vs) hp
  exact g _ F φ _ x2 R2 ⟨p, rfl, al, ⟨vs, upd_same, h⟩, nj, hp⟩

/-! ### looking at a value -/
section
variable {B : Fx} {F H : Hp} {φ : List Addr} {ρ : Env} {γ : List D} {σ : St} {v : V}
theorem Pk.int {i : Int} (R : Rel B F φ H ρ γ σ) (h : Pk B ρ σ φ F (.int i) v) : v = .int i := by
  rcases h with h | ⟨j, e, h⟩
  · rw [Den] at h; exact h
  · rcases R.fz j _ e with ⟨u, _, q⟩ | ⟨d', a, q, _, _, ow⟩
    · rw [Den] at q; exact q.elim
    · cases q; exact ow.elim
theorem Pk.bl {i : Bool} (R : Rel B F φ H ρ γ σ) (h : Pk B ρ σ φ F (.bl i) v) : v = .bl i := by
  rcases h with h | ⟨j, e, h⟩
  · rw [Den] at h; exact h
  · rcases R.fz j _ e with ⟨u, _, q⟩ | ⟨d', a, q, _, _, ow⟩
    · rw [Den] at q; exact q.elim
    · cases q; exact ow.elim
theorem Pk.str {i : Str} (R : Rel B F φ H ρ γ σ) (h : Pk B ρ σ φ F (.str i) v) : v = .str i := by
  rcases h with h | ⟨j, e, h⟩
  · rw [Den] at h; exact h
  · rcases R.fz j _ e with ⟨u, _, q⟩ | ⟨d', a, q, _, _, ow⟩
    · rw [Den] at q; exact q.elim
    · cases q; exact ow.elim
theorem Pk.non (R : Rel B F φ H ρ γ σ) (h : Pk B ρ σ φ F .non v) : v = .non := by
  rcases h with h | ⟨j, e, h⟩
  · rw [Den] at h; exact h
  · rcases R.fz j _ e with ⟨u, _, q⟩ | ⟨d', a, q, _, _, ow⟩
    · rw [Den] at q; exact q.elim
    · cases q; exact ow.elim
theorem Pk.tup {ds : List D} (R : Rel B F φ H ρ γ σ) (h : Pk B ρ σ φ F (.tup ds) v) : ∃ a vs, v = .ref a ∧ SqT B.C.K F a vs ∧ Dens B.C φ F ds vs := by
  rcases h with h | ⟨j, e, h⟩
  · rw [Den] at h; exact h
  · rcases R.fz j _ e with ⟨u, _, q⟩ | ⟨d', a, q, _, _, ow⟩
    · rw [Den] at q; exact q.elim
    · cases q; exact ow.elim
theorem Pk.lst {ds : List D} (R : Rel B F φ H ρ γ σ) (h : Pk B ρ σ φ F (.lst ds) v) : ∃ a vs, v = .ref a ∧ H a = some (.lst vs) ∧ Dens B.C φ F ds vs := by
  rcases h with h | ⟨j, e, h⟩
  · rw [Den] at h
    obtain ⟨a, vs, e, h1, h2⟩ := h
    exact ⟨a, vs, e, R.c.sub _ _ h1, h2⟩
  · rcases R.fz j _ e with ⟨u, _, q⟩ | ⟨d', a, q, h2, _, ow⟩
    · rw [Den] at q; exact q.elim
    · cases q
      obtain ⟨vs, h3, h4⟩ := ow
      rw [h] at h2
      have : v = .ref a := by injection h2 with h2; injection h2
      exact ⟨a, vs, this, h3, h4⟩
theorem Pk.scr {ns : List Int} (R : Rel B F φ H ρ γ σ) (h : Pk B ρ σ φ F (.scr ns) v) : ∃ a, v = .ref a ∧ SqL B.C.K F a (ns.map V.int) := by
  rcases h with h | ⟨j, e, h⟩
  · rw [Den] at h; exact h
  · rcases R.fz j _ e with ⟨u, _, q⟩ | ⟨d', a, q, _, _, ow⟩
    · rw [Den] at q; exact q.elim
    · cases q; exact ow.elim
end

section
variable {X : Cx} {B : Fx} {W : WX} {a b : Expr} {fa fb : ESem} {pos : Pos}
/-! ### binary operators -/
def OpD (B : Fx) (r : R2) (g : D → D → Option D) : Prop := ∀ (F : Hp) (φ : List Addr) (H : Hp) (ρ : Env) (γ : List D) (σ : St) (a b d : D) (x y : V) (Q : VK), Rel B F φ H ρ γ σ → Pk B ρ σ φ F a x → Pk B ρ σ φ F b y → g a b = some d → Gv B F φ H ρ γ σ d Q → r x y H Q
def OpF (B : Fx) (r : R2) (g : D → D → Option D) : Prop := ∀ (F : Hp) (φ : List Addr) (H : Hp) (ρ : Env) (γ : List D) (σ : St) (a b d : D) (x y : V) (Q : VK), Rel B F φ H ρ γ σ → Pk B ρ σ φ F a x → Pk B ρ σ φ F b y → g a b = some d → Gf B F φ H ρ γ σ d Q → r x y H Q
def gOr (g h : D → D → Option D) : D → D → Option D := fun a b => (g a b).or (h a b)
theorem OpD.or {r r' : R2} {g h : D → D → Option D} (o : OpD B r g) (o' : OpD B r' h) : OpD B (fun x y H Q => r x y H Q ∨ r' x y H Q) (gOr g h) := by
  intro F φ H ρ γ σ a b d x y Q R p q e G
  unfold gOr at e
  cases z : g a b with
  | some d' =>
    rw [z] at e
    have : d' = d := by simpa using e
    subst this
    exact .inl (o F φ H ρ γ σ a b d' x y Q R p q z G)
  | none =>
    rw [z] at e
    exact .inr (o' F φ H ρ γ σ a b d x y Q R p q (by simpa using e) G)
def eOp (g : D → D → Option D) (fa fb : ESem) : ESem := fun ρ γ => (fa ρ γ).bind fun x γ => (fb ρ γ).bind fun y γ => ofOpt (g x y) γ
theorem de_op {op : Operator} {r : R2} {g : D → D → Option D} (ho : OpR X (binaryOp op) r) (hg : OpD B r g) (ha : PE X a (tP B W fa)) (hb : PE X b (tP B W fb)) : PE X (.BinOp a op b pos) (tE B W (eOp g fa fb)) :=
  PE.imp (pe_op ho ha hb) fun σ H Q ⟨F, φ, ρ, γ, R, P⟩ => by
    refine run1 R P fun x γ1 u F1 φ1 H1 x1 R1 d1 P1 => ?_
    refine run1 R1 P1 fun y γ2 w F2 φ2 H2 x2 R2 d2 P2 => ?_
    cases e : g x y with
    | none => rw [e] at P2; exact P2.elim
    | some d => rw [e] at P2; exact hg F2 φ2 H2 ρ γ2 σ x y d u w Q R2 (Pk.up x2.f x2.p d1) d2 e P2
theorem df_op {op : Operator} {r : R2} {g : D → D → Option D} (ho : OpR X (binaryOp op) r) (hg : OpF B r g) (ha : PE X a (tP B W fa)) (hb : PE X b (tP B W fb)) : PE X (.BinOp a op b pos) (tF B W (eOp g fa fb)) :=
  PE.imp (pe_op ho ha hb) fun σ H Q ⟨F, φ, ρ, γ, R, P⟩ => by
    refine run1 R P fun x γ1 u F1 φ1 H1 x1 R1 d1 P1 => ?_
    refine run1 R1 P1 fun y γ2 w F2 φ2 H2 x2 R2 d2 P2 => ?_
    cases e : g x y with
    | none => rw [e] at P2; exact P2.elim
    | some d => rw [e] at P2; exact hg F2 φ2 H2 ρ γ2 σ x y d u w Q R2 (Pk.up x2.f x2.p d1) d2 e P2
/-- two ints -/
def gI (c : Int → Int → Bool) (g : Int → Int → Int) : D → D → Option D
  | .int i, .int j => if c i j = true then some (.int (g i j)) else none
  | _, _ => none
theorem opd_I {c : Int → Int → Bool} {C : Int → Int → Prop} {g : Int → Int → Int} (hc : ∀ i j, c i j = true → C i j) : OpD B (rI C fun i j => .int (g i j)) (gI c g) := by
  intro F φ H ρ γ σ a b d x y Q R p q e G
  cases a with
  | int i =>
    cases b with
    | int j =>
      simp only [gI] at e
      by_cases h : c i j = true
      · rw [if_pos h] at e
        cases e
        exact ⟨i, j, Pk.int R p, Pk.int R q, hc i j h, G.now R (by rw [Den])⟩
      · rw [if_neg h] at e; cases e
    | _ => cases e
  | _ => cases e
def cYes : Int → Int → Bool := fun _ _ => true
theorem opd_I0 {g : Int → Int → Int} : OpD B (rI0 fun i j => .int (g i j)) (gI cYes g) := by
  intro F φ H ρ γ σ a b d x y Q R p q e G
  cases a with
  | int i =>
    cases b with
    | int j =>
      cases e
      exact ⟨i, j, Pk.int R p, Pk.int R q, G.now R (by rw [Den])⟩
    | _ => cases e
  | _ => cases e
def gAddI := gI cYes (· + ·)
def gSubI := gI cYes (· - ·)
/-- sizes of products that the model carries -/
def cMul (i j : Int) : Bool := decide (i.natAbs < 2 ^ 5000) && decide (j.natAbs < 2 ^ 5000) || decide (-(2 ^ 64) < j) && decide (j < 2 ^ 64)
def gMulI := gI cMul (· * ·)
theorem op_mulA : OpR X (binaryOp .Mult) (rI (fun i j => cMul i j = true) fun i j => .int (i * j)) := by
  intro pins s σ H x y v u Q I rx ry h
  obtain ⟨i, j, e1, e2, c, q⟩ := h
  by_cases h1 : i.natAbs < 2 ^ 5000 ∧ j.natAbs < 2 ^ 5000
  · exact op_mulW pins s σ H x y v u Q I rx ry ⟨i, j, e1, e2, wide_mul h1.1 h1.2 (by decide) (by decide) (by decide), q⟩
  · have h2 : -(2 ^ 64) < j ∧ j < 2 ^ 64 := by
      unfold cMul at c
      rw [Bool.or_eq_true, Bool.and_eq_true, Bool.and_eq_true, decide_eq_true_eq, decide_eq_true_eq, decide_eq_true_eq, decide_eq_true_eq] at c
      rcases c with c | c
      · exact absurd c h1
      · exact c
    exact op_mul pins s σ H x y v u Q I rx ry ⟨i, j, e1, e2, .inr h2, q⟩
def cDiv (i j : Int) : Bool := decide (0 < j) && decide (j.natAbs < 2 ^ 5000)
def gDivI := gI cDiv (· / ·)
theorem cDiv_ok : ∀ i j, cDiv i j = true → CDivW i j := fun i j h => by
  unfold cDiv at h
  rw [Bool.and_eq_true, decide_eq_true_eq, decide_eq_true_eq] at h
  exact wide_div h.1 h.2 (by decide) (by decide)
def cMod (i j : Int) : Bool := decide (0 < j)
def gModI := gI cMod (· % ·)
def cPow (i j : Int) : Bool := decide (0 ≤ j) && decide (j ≤ 1000) && decide (i.natAbs < 2 ^ 64)
def gPowI := gI cPow (fun i j => i ^ j.toNat)
theorem cPow_ok : ∀ i j, cPow i j = true → CPow i j := fun i j h => by
  unfold cPow at h
  rw [Bool.and_eq_true, Bool.and_eq_true, decide_eq_true_eq, decide_eq_true_eq, decide_eq_true_eq] at h
  exact ⟨h.1.1, by omega, h.2⟩
/-- lists, tuples, texts put together -/
def gCatL : D → D → Option D
  | .lst a, .lst b => if a.length + b.length ≤ 1000000 then some (.lst (a ++ b)) else none
  | _, _ => none
def gCatT : D → D → Option D
  | .tup a, .tup b => if a.length + b.length ≤ 1000000 then some (.tup (a ++ b)) else none
  | _, _ => none
def gCatS : D → D → Option D
  | .str a, .str b => if a.length + b.length ≤ 1000000 then some (.str (a ++ b)) else none
  | _, _ => none
theorem opd_catL : OpD B rCat gCatL := by
  intro F φ H ρ γ σ a b d x y Q R p q e G
  cases a with
  | lst ds =>
    cases b with
    | lst es =>
      simp only [gCatL] at e
      by_cases h : ds.length + es.length ≤ 1000000
      · rw [if_pos h] at e
        cases e
        obtain ⟨l, vs, rfl, h1, h2⟩ := Pk.lst R p
        obtain ⟨m, us, rfl, h3, h4⟩ := Pk.lst R q
        exact ⟨l, m, vs, us, rfl, rfl, h1, h3, by rw [← h2.len, ← h4.len]; exact Nat.le_trans h SZ, fun p hp => G.lst R (h2.app h4) hp⟩
      · rw [if_neg h] at e; cases e
    | _ => cases e
  | _ => cases e
theorem opf_catL : OpF B rCat gCatL := by
  intro F φ H ρ γ σ a b d x y Q R p q e G
  cases a with
  | lst ds =>
    cases b with
    | lst es =>
      simp only [gCatL] at e
      by_cases h : ds.length + es.length ≤ 1000000
      · rw [if_pos h] at e
        cases e
        obtain ⟨l, vs, rfl, h1, h2⟩ := Pk.lst R p
        obtain ⟨m, us, rfl, h3, h4⟩ := Pk.lst R q
        exact ⟨l, m, vs, us, rfl, rfl, h1, h3, by rw [← h2.len, ← h4.len]; exact Nat.le_trans h SZ, fun p hp => G.lst R (h2.app h4) hp⟩
      · rw [if_neg h] at e; cases e
    | _ => cases e
  | _ => cases e
theorem dens_nil_iff {C : Ct} {F : Hp} {φ : List Addr} {ds : List D} (h : Dens C φ F ds []) : ds = [] := by
  have := h.len
  exact List.length_eq_zero_iff.mp (by simpa using this)
theorem opd_catT (hK : X.K = B.C.K) : OpD B (rCatA X.K) gCatT := by
  intro F φ H ρ γ σ a b d x y Q R p q e G
  rw [hK]
  cases a with
  | tup ds =>
    cases b with
    | tup es =>
      simp only [gCatT] at e
      by_cases h : ds.length + es.length ≤ 1000000
      · rw [if_pos h] at e
        cases e
        obtain ⟨l, vs, rfl, h1, h2⟩ := Pk.tup R p
        obtain ⟨m, us, rfl, h3, h4⟩ := Pk.tup R q
        refine ⟨l, m, vs, us, rfl, rfl, sqT_same R.c.sub h1, sqT_same R.c.sub h3, by rw [← h2.len, ← h4.len]; exact Nat.le_trans h SZ, fun z => ?_, fun _ z => ?_, fun _ _ p hp => G.tup R (h2.app h4) hp⟩
        · subst z
          have : ds = [] := dens_nil_iff h2
          subst this
          exact G.now R (by rw [Den]; exact ⟨m, us, rfl, h3, h4⟩)
        · subst z
          have : es = [] := dens_nil_iff h4
          subst this
          rw [List.append_nil] at G
          exact G.now R (by rw [Den]; exact ⟨l, vs, rfl, h1, h2⟩)
      · rw [if_neg h] at e; cases e
    | _ => cases e
  | _ => cases e
theorem opd_catS : OpD B (fun x y H Q => ∃ i j, x = .str i ∧ y = .str j ∧ i.length + j.length ≤ sizeLine ∧ Q (.str (i ++ j)) H) gCatS := by
  intro F φ H ρ γ σ a b d x y Q R p q e G
  cases a with
  | str i =>
    cases b with
    | str j =>
      simp only [gCatS] at e
      by_cases h : i.length + j.length ≤ 1000000
      · rw [if_pos h] at e
        cases e
        exact ⟨i, j, Pk.str R p, Pk.str R q, Nat.le_trans h SZ, G.now R (by rw [Den])⟩
      · rw [if_neg h] at e; cases e
    | _ => cases e
  | _ => cases e
theorem de_addI (ha : PE X a (tP B W fa)) (hb : PE X b (tP B W fb)) : PE X (.BinOp a .Add b pos) (tE B W (eOp gAddI fa fb)) := de_op op_add opd_I0 ha hb
theorem de_subI (ha : PE X a (tP B W fa)) (hb : PE X b (tP B W fb)) : PE X (.BinOp a .Sub b pos) (tE B W (eOp gSubI fa fb)) := de_op op_sub opd_I0 ha hb
theorem de_mulI (ha : PE X a (tP B W fa)) (hb : PE X b (tP B W fb)) : PE X (.BinOp a .Mult b pos) (tE B W (eOp gMulI fa fb)) := de_op op_mulA (opd_I fun _ _ h => h) ha hb
theorem de_divI (ha : PE X a (tP B W fa)) (hb : PE X b (tP B W fb)) : PE X (.BinOp a .FloorDiv b pos) (tE B W (eOp gDivI fa fb)) := de_op op_fdivW (opd_I cDiv_ok) ha hb
theorem de_modI (ha : PE X a (tP B W fa)) (hb : PE X b (tP B W fb)) : PE X (.BinOp a .Mod b pos) (tE B W (eOp gModI fa fb)) := de_op op_mod (opd_I fun i j h => of_decide_eq_true h) ha hb
theorem de_powI (ha : PE X a (tP B W fa)) (hb : PE X b (tP B W fb)) : PE X (.BinOp a .Pow b pos) (tE B W (eOp gPowI fa fb)) := de_op op_pow (opd_I cPow_ok) ha hb
theorem de_catL (ha : PE X a (tP B W fa)) (hb : PE X b (tP B W fb)) : PE X (.BinOp a .Add b pos) (tE B W (eOp gCatL fa fb)) := de_op op_cat opd_catL ha hb
theorem df_catL (ha : PE X a (tP B W fa)) (hb : PE X b (tP B W fb)) : PE X (.BinOp a .Add b pos) (tF B W (eOp gCatL fa fb)) := df_op op_cat opf_catL ha hb
theorem de_catT (hK : X.K = B.C.K) (ha : PE X a (tP B W fa)) (hb : PE X b (tP B W fb)) : PE X (.BinOp a .Add b pos) (tE B W (eOp gCatT fa fb)) := de_op op_catA (opd_catT hK) ha hb
theorem de_catS (ha : PE X a (tP B W fa)) (hb : PE X b (tP B W fb)) : PE X (.BinOp a .Add b pos) (tE B W (eOp gCatS fa fb)) := de_op op_add_str opd_catS ha hb
/-- -a -/
def eNeg (fa : ESem) : ESem := fun ρ γ => (fa ρ γ).bind fun x γ => match x with
  | .int i => .ok (.int (-i)) γ
  | _ => .stuck
theorem de_neg (ha : PE X a (tP B W fa)) : PE X (.UnaryOp .USub a pos) (tE B W (eNeg fa)) :=
  PE.imp (pe_un un_neg ha) fun σ H Q ⟨F, φ, ρ, γ, R, P⟩ => by
    refine run1 R P fun x γ1 u F1 φ1 H1 x1 R1 d1 P1 => ?_
    cases x with
    | int i => exact ⟨i, Pk.int R1 d1, P1 _ F1 φ1 H1 (Ext.refl _ _ _) R1 (by show Den _ _ _ _ _; rw [Den])⟩
    | _ => exact P1.elim

/-! ### comparisons -/
def OpB (B : Fx) (r : R2) (g : D → D → Option Bool) : Prop := ∀ (F : Hp) (φ : List Addr) (H : Hp) (ρ : Env) (γ : List D) (σ : St) (a b : D) (k : Bool) (x y : V) (Q : VK), Rel B F φ H ρ γ σ → Pk B ρ σ φ F a x → Pk B ρ σ φ F b y → g a b = some k → Q (.bl k) H → r x y H Q
def eCmp (g : D → D → Option Bool) (fa fb : ESem) : ESem := fun ρ γ => (fa ρ γ).bind fun x γ => (fb ρ γ).bind fun y γ => match g x y with
  | some k => .ok (.bl k) γ
  | none => .stuck
def cCmp (g : D → D → Option Bool) (fa fb : ESem) : Env → List D → Res Bool := fun ρ γ => (fa ρ γ).bind fun x γ => (fb ρ γ).bind fun y γ => ofOpt (g x y) γ
theorem de_cmp {op : CmpOp} {r : R2} {g : D → D → Option Bool} (ho : OpR X (compareOp op) r) (hg : OpB B r g) (ha : PE X a (tP B W fa)) (hb : PE X b (tP B W fb)) (hm : behindInMarks op b = false) : PE X (.Compare a [op] [b] pos) (tE B W (eCmp g fa fb)) :=
  PE.imp (pe_cmpR ho ha hb hm) fun σ H Q ⟨F, φ, ρ, γ, R, P⟩ => by
    refine run1 R P fun x γ1 u F1 φ1 H1 x1 R1 d1 P1 => ?_
    refine run1 R1 P1 fun y γ2 w F2 φ2 H2 x2 R2 d2 P2 => ?_
    cases e : g x y with
    | none => rw [e] at P2; exact P2.elim
    | some k => rw [e] at P2; exact hg F2 φ2 H2 ρ γ2 σ x y k u w Q R2 (Pk.up x2.f x2.p d1) d2 e (P2 _ F2 φ2 H2 (Ext.refl _ _ _) R2 (by show Den _ _ _ _ _; rw [Den]))
theorem dt_cmp {op : CmpOp} {r : R2} {g : D → D → Option Bool} (ho : OpR X (compareOp op) r) (hg : OpB B r g) (ha : PE X a (tP B W fa)) (hb : PE X b (tP B W fb)) (hm : behindInMarks op b = false) : PT X (.Compare a [op] [b] pos) (tT B W (cCmp g fa fb)) :=
  PT.imp (pt_cmpR ho ha hb hm) fun σ H Q ⟨F, φ, ρ, γ, R, P⟩ => by
    refine run1 R P fun x γ1 u F1 φ1 H1 x1 R1 d1 P1 => ?_
    refine run1 R1 P1 fun y γ2 w F2 φ2 H2 x2 R2 d2 P2 => ?_
    cases e : g x y with
    | none => rw [e] at P2; exact P2.elim
    | some k => rw [e] at P2; exact hg F2 φ2 H2 ρ γ2 σ x y k u w _ R2 (Pk.up x2.f x2.p d1) d2 e ⟨k, rfl, P2 k F2 φ2 H2 (Ext.refl _ _ _) R2 rfl⟩
def bI (g : Int → Int → Bool) : D → D → Option Bool
  | .int i, .int j => some (g i j)
  | _, _ => none
theorem opb_I {g : Int → Int → Bool} : OpB B (rI0 fun i j => .bl (g i j)) (bI g) := by
  intro F φ H ρ γ σ a b k x y Q R p q e G
  cases a with
  | int i =>
    cases b with
    | int j =>
      cases e
      exact ⟨i, j, Pk.int R p, Pk.int R q, G⟩
    | _ => cases e
  | _ => cases e
def bLt := bI fun i j => decide (i < j)
def bLe := bI fun i j => decide (i ≤ j)
def bGt := bI fun i j => decide (j < i)
def bGe := bI fun i j => decide (j ≤ i)
theorem de_lt (ha : PE X a (tP B W fa)) (hb : PE X b (tP B W fb)) : PE X (.Compare a [.Lt] [b] pos) (tE B W (eCmp bLt fa fb)) := de_cmp op_lt opb_I ha hb (nomark _)
theorem de_le (ha : PE X a (tP B W fa)) (hb : PE X b (tP B W fb)) : PE X (.Compare a [.LtE] [b] pos) (tE B W (eCmp bLe fa fb)) := de_cmp op_le opb_I ha hb (nomark _)
theorem de_gt (ha : PE X a (tP B W fa)) (hb : PE X b (tP B W fb)) : PE X (.Compare a [.Gt] [b] pos) (tE B W (eCmp bGt fa fb)) := de_cmp op_gt opb_I ha hb (nomark _)
theorem de_ge (ha : PE X a (tP B W fa)) (hb : PE X b (tP B W fb)) : PE X (.Compare a [.GtE] [b] pos) (tE B W (eCmp bGe fa fb)) := de_cmp op_ge opb_I ha hb (nomark _)
theorem dt_lt (ha : PE X a (tP B W fa)) (hb : PE X b (tP B W fb)) : PT X (.Compare a [.Lt] [b] pos) (tT B W (cCmp bLt fa fb)) := dt_cmp op_lt opb_I ha hb (nomark _)
theorem dt_le (ha : PE X a (tP B W fa)) (hb : PE X b (tP B W fb)) : PT X (.Compare a [.LtE] [b] pos) (tT B W (cCmp bLe fa fb)) := dt_cmp op_le opb_I ha hb (nomark _)
theorem dt_gt (ha : PE X a (tP B W fa)) (hb : PE X b (tP B W fb)) : PT X (.Compare a [.Gt] [b] pos) (tT B W (cCmp bGt fa fb)) := dt_cmp op_gt opb_I ha hb (nomark _)
theorem dt_ge (ha : PE X a (tP B W fa)) (hb : PE X b (tP B W fb)) : PT X (.Compare a [.GtE] [b] pos) (tT B W (cCmp bGe fa fb)) := dt_cmp op_ge opb_I ha hb (nomark _)
end

/-! ### == at any depth -/
mutual
def D.eqB : D → D → Bool
  | .non, .non => true
  | .bl a, .bl b => a == b
  | .bl a, .int j => (if a then 1 else 0) == j
  | .int i, .bl b => i == (if b then 1 else 0)
  | .int i, .int j => i == j
  | .str x, .str y => x == y
  | .tup xs, .tup ys => D.eqAll xs ys
  | .lst xs, .lst ys => D.eqAll xs ys
  | _, _ => false
def D.eqAll : List D → List D → Bool
  | [], [] => true
  | x :: xs, y :: ys => D.eqB x y && D.eqAll xs ys
  | _, _ => false
end
mutual
/-- made of None, truth values, ints, texts, tuples, lists, no deeper than n -/
def D.plain : Nat → D → Bool
  | _, .non => true
  | _, .bl _ => true
  | _, .int _ => true
  | _, .str x => PyData.strOk x
  | n + 1, .tup xs => D.plains n xs
  | n + 1, .lst xs => D.plains n xs
  | _, _ => false
def D.plains : Nat → List D → Bool
  | _, [] => true
  | n, x :: xs => D.plain n x && D.plains n xs
end
mutual
def D.py : D → PyData
  | .bl b => .bool b
  | .int i => .int i
  | .str x => .str x
  | .tup xs => .tuple (D.pys xs)
  | .lst xs => .list (D.pys xs)
  | _ => .none
def D.pys : List D → List PyData
  | [] => []
  | x :: xs => D.py x :: D.pys xs
end
end DL

/-! DL3: == of data, in, tests, and / or, subscripts, slices, calls of built-ins -/
namespace DL
open PySem PySem.Spec PyProof.Rows L2

theorem dp_ints (K : PySem.W.Frag) (H : Hp) : ∀ ns : List Int, DpAll K H (ns.map V.int) (ns.map PyData.int)
  | [] => .nil
  | n :: ns => .cons (.int n) (dp_ints K H ns)
mutual
theorem den_dp {C : Ct} {φ : List Addr} {F H : Hp} (s : Same F H) : ∀ (n : Nat) (d : D) (v : V), D.plain n d = true → Den C φ F d v → Dp C.K H v d.py
  | _, .non, v, _, h => by rw [Den] at h; rw [h, D.py]; exact .non; all_goals (intros; simp_all)
  | _, .bl b, v, _, h => by rw [Den] at h; rw [h, D.py]; exact .bl b
  | _, .int i, v, _, h => by rw [Den] at h; rw [h, D.py]; exact .int i
  | _, .str x, v, _, h => by rw [Den] at h; rw [h, D.py]; exact .str x
  | n + 1, .tup xs, v, p, h => by
    rw [Den] at h
    obtain ⟨a, vs, rfl, h1, h2⟩ := h
    rw [D.py]
    rw [D.plain] at p
    exact .tup (sqT_same s h1) (dens_dp s n xs vs p h2)
  | n + 1, .lst xs, v, p, h => by
    rw [Den] at h
    obtain ⟨a, vs, rfl, h1, h2⟩ := h
    rw [D.py]
    rw [D.plain] at p
    exact .lst (.inl (.inl (s _ _ h1))) (dens_dp s n xs vs p h2)
  | 0, .tup _, _, p, _ => by simp [D.plain] at p
  | 0, .lst _, _, p, _ => by simp [D.plain] at p
  | _, .scr _, _, p, _ => by simp [D.plain] at p
  | _, .dic _, _, p, _ => by simp [D.plain] at p
  | _, .dik _ _, _, p, _ => by simp [D.plain] at p
  | _, .ins _ _, _, p, _ => by simp [D.plain] at p
  | _, .cell _, _, p, _ => by simp [D.plain] at p
  | _, .raw _, _, p, _ => by simp [D.plain] at p
  | _, .mine _, _, p, _ => by simp [D.plain] at p
  | _, .nk _, _, p, _ => by simp [D.plain] at p
theorem dens_dp {C : Ct} {φ : List Addr} {F H : Hp} (s : Same F H) : ∀ (n : Nat) (ds : List D) (vs : List V), D.plains n ds = true → Dens C φ F ds vs → DpAll C.K H vs (D.pys ds)
  | _, [], vs, _, h => by rw [Dens] at h; rw [h, D.pys]; exact .nil
  | n, d :: ds, vs, p, h => by
    rw [Dens] at h
    obtain ⟨v, r, rfl, h1, h2⟩ := h
    rw [D.plains, Bool.and_eq_true] at p
    rw [D.pys]
    exact .cons (den_dp s n d v p.1 h1) (dens_dp s n ds r p.2 h2)
end
theorem pk_dp {B : Fx} {F H : Hp} {φ : List Addr} {ρ : Env} {γ : List D} {σ : St} {v : V} {n : Nat} {d : D} (R : Rel B F φ H ρ γ σ) (p : D.plain n d = true) (h : Pk B ρ σ φ F d v) : Dp B.C.K H v d.py := by
  rcases h with h | ⟨j, e, h⟩
  · exact den_dp R.c.sub n d v p h
  · cases d with
    | lst ds =>
      obtain ⟨a, vs, rfl, h1, h2⟩ := Pk.lst R (.inr ⟨j, e, h⟩)
      cases n with
      | zero => simp [D.plain] at p
      | succ n => rw [D.plain] at p; rw [D.py]; exact .lst (.inl (.inl h1)) (dens_dp R.c.sub n ds vs p h2)
    | dic _ => simp [D.plain] at p
    | dik _ _ => simp [D.plain] at p
    | ins _ _ => simp [D.plain] at p
    | _ =>
      rcases R.fz j _ e with ⟨u, _, q⟩ | ⟨d', a, q, _, _, ow⟩
      · rw [Den] at q; exact q.elim
      · cases q; exact ow.elim
theorem ints_depth : ∀ ns : List Int, PyData.depthAll (ns.map PyData.int) = 0
  | [] => by rw [List.map_nil, PyData.depthAll]
  | n :: ns => by rw [List.map_cons, PyData.depthAll, ints_depth ns, PyData.depth]; rfl; all_goals (intros; simp_all)
theorem ints_lay : ∀ ns : List Int, PyData.canLayAll0 (ns.map PyData.int) = true
  | [] => by rw [List.map_nil, PyData.canLayAll0]
  | n :: ns => by rw [List.map_cons, PyData.canLayAll0, ints_lay ns, PyData.canLay0]; rfl
mutual
theorem plain_shape : ∀ (n : Nat) (d : D), D.plain n d = true → d.py.canLay0 = true ∧ d.py.depth ≤ n
  | n, .non, _ => by simp [D.py, PyData.canLay0, PyData.depth]
  | n, .bl _, _ => by simp [D.py, PyData.canLay0, PyData.depth]
  | n, .int _, _ => by simp [D.py, PyData.canLay0, PyData.depth]
  | n, .str x, p => by simp only [D.plain] at p; simp [D.py, PyData.canLay0, PyData.depth, p]
  | n + 1, .tup xs, p => by
    rw [D.plain] at p
    have h := plains_shape n xs p
    simp only [D.py, PyData.canLay0, PyData.depth]
    exact ⟨h.1, by omega⟩
  | n + 1, .lst xs, p => by
    rw [D.plain] at p
    have h := plains_shape n xs p
    simp only [D.py, PyData.canLay0, PyData.depth]
    exact ⟨h.1, by omega⟩
  | 0, .tup _, p => by simp [D.plain] at p
  | 0, .lst _, p => by simp [D.plain] at p
  | _, .scr _, p => by simp [D.plain] at p
  | _, .dic _, p => by simp [D.plain] at p
  | _, .dik _ _, p => by simp [D.plain] at p
  | _, .ins _ _, p => by simp [D.plain] at p
  | _, .cell _, p => by simp [D.plain] at p
  | _, .raw _, p => by simp [D.plain] at p
  | _, .mine _, p => by simp [D.plain] at p
  | _, .nk _, p => by simp [D.plain] at p
theorem plains_shape : ∀ (n : Nat) (ds : List D), D.plains n ds = true → PyData.canLayAll0 (D.pys ds) = true ∧ PyData.depthAll (D.pys ds) ≤ n
  | n, [], _ => by simp [D.pys, PyData.canLayAll0, PyData.depthAll]
  | n, d :: ds, p => by
    rw [D.plains, Bool.and_eq_true] at p
    have h1 := plain_shape n d p.1
    have h2 := plains_shape n ds p.2
    simp only [D.pys, PyData.canLayAll0, PyData.depthAll, h1.1, h2.1, Bool.and_self, true_and]
    omega
end
mutual
theorem eqB_py : ∀ (n m : Nat) (a b : D), D.plain n a = true → D.plain m b = true → D.eqB a b = PyData.eqv a.py b.py
  | n, m, .tup xs, b, p, q => by
    cases n with
    | zero => simp [D.plain] at p
    | succ n =>
      cases b with
      | tup ys =>
        cases m with
        | zero => simp [D.plain] at q
        | succ m =>
          rw [D.plain] at p q
          simp only [D.eqB, D.py, PyData.eqv]
          exact eqAll_py n m xs ys p q
      | _ => first | simp [D.eqB, D.py, PyData.eqv] | simp [D.plain] at q
  | n, m, .lst xs, b, p, q => by
    cases n with
    | zero => simp [D.plain] at p
    | succ n =>
      cases b with
      | lst ys =>
        cases m with
        | zero => simp [D.plain] at q
        | succ m =>
          rw [D.plain] at p q
          simp only [D.eqB, D.py, PyData.eqv]
          exact eqAll_py n m xs ys p q
      | _ => first | simp [D.eqB, D.py, PyData.eqv] | simp [D.plain] at q
  | n, m, .non, b, p, q => by cases b <;> first | (simp [D.plain] at q; done) | simp [D.eqB, D.py, PyData.eqv]
  | n, m, .bl x, b, p, q => by cases b <;> first | simp [D.eqB, D.py, PyData.eqv] | simp [D.plain] at q
  | n, m, .int x, b, p, q => by cases b <;> first | simp [D.eqB, D.py, PyData.eqv] | simp [D.plain] at q
  | n, m, .str x, b, p, q => by cases b <;> first | simp [D.eqB, D.py, PyData.eqv] | simp [D.plain] at q
  | n, m, .dic _, b, p, q => by simp [D.plain] at p
  | n, m, .dik _ _, b, p, q => by simp [D.plain] at p
  | n, m, .ins _ _, b, p, q => by simp [D.plain] at p
  | n, m, .cell _, b, p, q => by simp [D.plain] at p
  | n, m, .raw _, b, p, q => by simp [D.plain] at p
  | n, m, .scr _, b, p, q => by simp [D.plain] at p
  | n, m, .mine _, b, p, q => by simp [D.plain] at p
  | n, m, .nk _, b, p, q => by simp [D.plain] at p
theorem eqAll_py : ∀ (n m : Nat) (as bs : List D), D.plains n as = true → D.plains m bs = true → D.eqAll as bs = PyData.eqvAll (D.pys as) (D.pys bs)
  | n, m, [], [], p, q => by simp [D.eqAll, D.pys, PyData.eqvAll]
  | n, m, [], b :: bs, p, q => by simp [D.eqAll, D.pys, PyData.eqvAll]
  | n, m, a :: as, [], p, q => by simp [D.eqAll, D.pys, PyData.eqvAll]
  | n, m, a :: as, b :: bs, p, q => by
    rw [D.plains, Bool.and_eq_true] at p q
    simp only [D.eqAll, D.pys, PyData.eqvAll]
    rw [eqB_py n m a b p.1 q.1, eqAll_py n m as bs p.2 q.2]
end
/-- a == b where the model answers -/
def dEq : D → D → Option Bool
  | .scr ns, .lst ys => if D.plain 60 (.lst ys) = true then some (D.eqAll (ns.map .int) ys) else none
  | a, b => if (D.plain 60 a && D.plain 60 b) = true then some (D.eqB a b) else none
def dNe (a b : D) : Option Bool := (dEq a b).map not
theorem pys_ints : ∀ ns : List Int, D.pys (ns.map .int) = ns.map PyData.int
  | [] => by simp [D.pys]
  | n :: ns => by rw [List.map_cons, D.pys, pys_ints ns, D.py]; rfl
theorem plains_ints (m : Nat) : ∀ ns : List Int, D.plains m (ns.map .int) = true
  | [] => by simp [D.plains]
  | n :: ns => by rw [List.map_cons, D.plains, plains_ints m ns, D.plain]; rfl
theorem shaped_plain {d : D} (p : D.plain 60 d = true) : SeqAt.shaped d.py = true := by
  have h := plain_shape 60 d p
  unfold SeqAt.shaped
  rw [h.1, Bool.true_and, decide_eq_true_eq]
  omega
section
variable {X : Cx} {B : Fx} {W : WX} {a b c : Expr} {fa fb fc : ESem} {pos : Pos}
theorem dEq_ok {F H : Hp} {φ : List Addr} {ρ : Env} {γ : List D} {σ : St} {a b : D} {x y : V} {k : Bool} (R : Rel B F φ H ρ γ σ) (p : Pk B ρ σ φ F a x) (q : Pk B ρ σ φ F b y) (e : dEq a b = some k) :
    ∃ d d', Dp B.C.K H x d ∧ Dp B.C.K H y d' ∧ SeqAt.shaped d = true ∧ SeqAt.shaped d' = true ∧ PyData.eqv d d' = k := by
  have gen : (D.plain 60 a && D.plain 60 b) = true → D.eqB a b = k → ∃ d d', Dp B.C.K H x d ∧ Dp B.C.K H y d' ∧ SeqAt.shaped d = true ∧ SeqAt.shaped d' = true ∧ PyData.eqv d d' = k := fun h1 h2 => by
    rw [Bool.and_eq_true] at h1
    exact ⟨a.py, b.py, pk_dp R h1.1 p, pk_dp R h1.2 q, shaped_plain h1.1, shaped_plain h1.2, by rw [← eqB_py 60 60 a b h1.1 h1.2]; exact h2⟩
  unfold dEq at e
  split at e
  · rename_i ns ys
    by_cases h : D.plain 60 (.lst ys) = true
    · rw [if_pos h] at e
      cases e
      obtain ⟨l, rfl, hs⟩ := Pk.scr R p
      refine ⟨.list (ns.map .int), (D.lst ys).py, .lst (sqL_same R.c.sub hs) (dp_ints _ _ ns), pk_dp R h q, ?_, shaped_plain h, ?_⟩
      · unfold SeqAt.shaped
        rw [PyData.canLay0, ints_lay, Bool.true_and, decide_eq_true_eq, PyData.depth, ints_depth]
        omega
      · rw [D.plain] at h
        rw [eqAll_py 59 59 _ _ (plains_ints 59 ns) h, pys_ints, D.py, PyData.eqv]
    · rw [if_neg h] at e; cases e
  · by_cases h : (D.plain 60 a && D.plain 60 b) = true
    · rw [if_pos h] at e
      cases e
      exact gen h rfl
    · rw [if_neg h] at e; cases e
theorem opb_eq (hK : X.K = B.C.K) : OpB B (rEqD X.K) dEq := by
  intro F φ H ρ γ σ a b k x y Q R p q e G
  rw [hK]
  obtain ⟨d, d', h1, h2, h3, h4, h5⟩ := dEq_ok R p q e
  exact ⟨d, d', h1, h2, h3, h4, by rw [h5]; exact G⟩
theorem opb_ne (hK : X.K = B.C.K) : OpB B (rNeD X.K) dNe := by
  intro F φ H ρ γ σ a b k x y Q R p q e G
  rw [hK]
  unfold dNe at e
  cases z : dEq a b with
  | none => rw [z] at e; cases e
  | some k' =>
    rw [z] at e
    cases e
    obtain ⟨d, d', h1, h2, h3, h4, h5⟩ := dEq_ok R p q z
    exact ⟨d, d', h1, h2, h3, h4, by rw [h5]; exact G⟩
theorem de_eq (hK : X.K = B.C.K) (hu : X.A.units + 64 < cLine) (ha : PE X a (tP B W fa)) (hb : PE X b (tP B W fb)) : PE X (.Compare a [.Eq] [b] pos) (tE B W (eCmp dEq fa fb)) := de_cmp (op_eqD hu) (opb_eq hK) ha hb (nomark _)
theorem dt_eq (hK : X.K = B.C.K) (hu : X.A.units + 64 < cLine) (ha : PE X a (tP B W fa)) (hb : PE X b (tP B W fb)) : PT X (.Compare a [.Eq] [b] pos) (tT B W (cCmp dEq fa fb)) := dt_cmp (op_eqD hu) (opb_eq hK) ha hb (nomark _)
theorem de_ne (hK : X.K = B.C.K) (hu : X.A.units + 64 < cLine) (ha : PE X a (tP B W fa)) (hb : PE X b (tP B W fb)) : PE X (.Compare a [.NotEq] [b] pos) (tE B W (eCmp dNe fa fb)) := de_cmp (op_neD hu) (opb_ne hK) ha hb (nomark _)
theorem dt_ne (hK : X.K = B.C.K) (hu : X.A.units + 64 < cLine) (ha : PE X a (tP B W fa)) (hb : PE X b (tP B W fb)) : PT X (.Compare a [.NotEq] [b] pos) (tT B W (cCmp dNe fa fb)) := dt_cmp (op_neD hu) (opb_ne hK) ha hb (nomark _)
end
end DL

/-! DL4: tests, and / or, subscripts, slices, calls of built-ins -/
namespace DL
open PySem PySem.Spec PyProof.Rows L2
abbrev CSem := Env → List D → Res Bool
section
variable {X : Cx} {B : Fx} {W : WX} {a b c : Expr} {fa fb fc : ESem} {pos : Pos} {ca cb : CSem} {rest : List Expr}
/-! ### tests -/
def cVal (f : ESem) : CSem := fun ρ γ => (f ρ γ).bind fun x γ => match x with
  | .bl k => .ok k γ
  | _ => .stuck
theorem dt_val {e : Expr} {f : ESem} (h : PE X e (tP B W f)) (he : ∀ whole, isTrue e X.env whole = (do let v ← whole; standAt e.pos; holding [v] (truthy v)) := by intro _; rfl) : PT X e (tT B W (cVal f)) :=
  PT.imp (pt_val h he) fun σ H Q ⟨F, φ, ρ, γ, R, P⟩ => by
    refine run1 R P fun x γ1 u F1 φ1 H1 x1 R1 d1 P1 => ?_
    cases x with
    | bl k => exact ⟨k, Pk.bl R1 d1, P1 k F1 φ1 H1 (Ext.refl _ _ _) R1 rfl⟩
    | _ => exact P1.elim
def cAnd (f g : CSem) : CSem := fun ρ γ => (f ρ γ).bind fun k γ => if k = true then g ρ γ else .ok false γ
def cOr (f g : CSem) : CSem := fun ρ γ => (f ρ γ).bind fun k γ => if k = true then .ok true γ else g ρ γ
def cNot (f : CSem) : CSem := fun ρ γ => (f ρ γ).bind fun k γ => .ok (!k) γ
theorem dw_and1 (h : PT X a (tT B W ca)) : PW X (.BoolOp .And [a] pos) (tT B W ca) := pw_and1 h
theorem dw_or1 (h : PT X a (tT B W ca)) : PW X (.BoolOp .Or [a] pos) (tT B W ca) := pw_or1 h
theorem dw_and (h : PT X a (tT B W ca)) (h' : PW X (.BoolOp .And (b :: rest) pos) (tT B W cb)) : PW X (.BoolOp .And (a :: b :: rest) pos) (tT B W (cAnd ca cb)) :=
  PW.imp (pw_and h h') fun σ H Q ⟨F, φ, ρ, γ, R, P⟩ => by
    refine run1 R P fun k γ1 k' F1 φ1 H1 x1 R1 d1 P1 => ?_
    cases (show k = k' from d1)
    cases k with
    | true => exact ⟨F1, φ1, ρ, γ1, R1, P1⟩
    | false => exact P1 false F1 φ1 H1 (Ext.refl _ _ _) R1 rfl
theorem dw_or (h : PT X a (tT B W ca)) (h' : PW X (.BoolOp .Or (b :: rest) pos) (tT B W cb)) : PW X (.BoolOp .Or (a :: b :: rest) pos) (tT B W (cOr ca cb)) :=
  PW.imp (pw_or h h') fun σ H Q ⟨F, φ, ρ, γ, R, P⟩ => by
    refine run1 R P fun k γ1 k' F1 φ1 H1 x1 R1 d1 P1 => ?_
    cases (show k = k' from d1)
    cases k with
    | false => exact ⟨F1, φ1, ρ, γ1, R1, P1⟩
    | true => exact P1 true F1 φ1 H1 (Ext.refl _ _ _) R1 rfl
theorem dt_not (h : PT X a (tT B W ca)) : PT X (.UnaryOp .Not a pos) (tT B W (cNot ca)) :=
  PT.imp (pt_not h) fun σ H Q ⟨F, φ, ρ, γ, R, P⟩ => by
    refine run1 R P fun k γ1 k' F1 φ1 H1 x1 R1 d1 P1 => ?_
    cases (show k = k' from d1)
    exact P1 (!k) F1 φ1 H1 (Ext.refl _ _ _) R1 rfl
/-! ### as values -/
def eAnd (f g : ESem) : ESem := fun ρ γ => (f ρ γ).bind fun x γ => match x with
  | .bl true => g ρ γ
  | .bl false => .ok (.bl false) γ
  | _ => .stuck
def eOr (f g : ESem) : ESem := fun ρ γ => (f ρ γ).bind fun x γ => match x with
  | .bl true => .ok (.bl true) γ
  | .bl false => g ρ γ
  | _ => .stuck
def eNot (f : ESem) : ESem := fun ρ γ => (f ρ γ).bind fun x γ => match x with
  | .bl k => .ok (.bl (!k)) γ
  | _ => .stuck
theorem de_one {op : BoolOp} (h : PE X a (tE B W fa)) : PE X (.BoolOp op [a] pos) (tE B W fa) := pe_one h
theorem de_and (h : PE X a (tP B W fa)) (h' : PE X (.BoolOp .And (b :: rest) pos) (tE B W fb)) : PE X (.BoolOp .And (a :: b :: rest) pos) (tE B W (eAnd fa fb)) :=
  PE.imp (pe_and h h') fun σ H Q ⟨F, φ, ρ, γ, R, P⟩ => by
    refine run1 R P fun x γ1 u F1 φ1 H1 x1 R1 d1 P1 => ?_
    cases x with
    | bl k =>
      refine ⟨k, Pk.bl R1 d1, ?_⟩
      cases k with
      | true => exact ⟨F1, φ1, ρ, γ1, R1, P1⟩
      | false => exact P1 _ F1 φ1 H1 (Ext.refl _ _ _) R1 (by show Den _ _ _ _ _; rw [Den])
    | _ => exact P1.elim
theorem de_or (h : PE X a (tP B W fa)) (h' : PE X (.BoolOp .Or (b :: rest) pos) (tE B W fb)) : PE X (.BoolOp .Or (a :: b :: rest) pos) (tE B W (eOr fa fb)) :=
  PE.imp (pe_or h h') fun σ H Q ⟨F, φ, ρ, γ, R, P⟩ => by
    refine run1 R P fun x γ1 u F1 φ1 H1 x1 R1 d1 P1 => ?_
    cases x with
    | bl k =>
      refine ⟨k, Pk.bl R1 d1, ?_⟩
      cases k with
      | false => exact ⟨F1, φ1, ρ, γ1, R1, P1⟩
      | true => exact P1 _ F1 φ1 H1 (Ext.refl _ _ _) R1 (by show Den _ _ _ _ _; rw [Den])
    | _ => exact P1.elim
theorem de_not (h : PE X a (tP B W fa)) : PE X (.UnaryOp .Not a pos) (tE B W (eNot fa)) :=
  PE.imp (pe_not h) fun σ H Q ⟨F, φ, ρ, γ, R, P⟩ => by
    refine run1 R P fun x γ1 u F1 φ1 H1 x1 R1 d1 P1 => ?_
    cases x with
    | bl k => exact ⟨k, Pk.bl R1 d1, P1 _ F1 φ1 H1 (Ext.refl _ _ _) R1 (by show Den _ _ _ _ _; rw [Den])⟩
    | _ => exact P1.elim
def eIf (c : CSem) (f g : ESem) : ESem := fun ρ γ => (c ρ γ).bind fun k γ => if k = true then f ρ γ else g ρ γ
theorem de_if (hc : PT X c (tT B W ca)) (ha : PE X a (tE B W fa)) (hb : PE X b (tE B W fb)) : PE X (.IfExp c a b pos) (tE B W (eIf ca fa fb)) :=
  PE.imp (pe_ifExp hc ha hb) fun σ H Q ⟨F, φ, ρ, γ, R, P⟩ => by
    refine run1 R P fun k γ1 k' F1 φ1 H1 x1 R1 d1 P1 => ?_
    cases (show k = k' from d1)
    cases k with
    | true => exact ⟨F1, φ1, ρ, γ1, R1, P1⟩
    | false => exact ⟨F1, φ1, ρ, γ1, R1, P1⟩
/-- a op b op' c -/
def eChain (g g' : D → D → Option Bool) (fa fb fc : ESem) : ESem := fun ρ γ => (fa ρ γ).bind fun x γ => (fb ρ γ).bind fun y γ => (ofOpt (g x y) γ).bind fun k γ => if k = true then (fc ρ γ).bind fun z γ => match g' y z with
  | some k => .ok (.bl k) γ
  | none => .stuck else .ok (.bl false) γ
theorem de_chain {op op' : CmpOp} {r r' : R2} {g g' : D → D → Option Bool} (ho : OpR X (compareOp op) r) (ho' : OpR X (compareOp op') r') (hg : OpB B r g) (hg' : OpB B r' g') (ha : PE X a (tP B W fa)) (hb : PE X b (tP B W fb)) (hc : PE X c (tP B W fc))
    (hm : lastMarks [op, op'] [b, c] = false := by with_unfolding_all rfl) : PE X (.Compare a [op, op'] [b, c] pos) (tE B W (eChain g g' fa fb fc)) :=
  PE.imp (pe_chain ho ho' ha hb hc hm) fun σ H Q ⟨F, φ, ρ, γ, R, P⟩ => by
    refine run1 R P fun x γ1 u F1 φ1 H1 x1 R1 d1 P1 => ?_
    refine run1 R1 P1 fun y γ2 w F2 φ2 H2 x2 R2 d2 P2 => ?_
    cases e : g x y with
    | none => rw [e] at P2; exact P2.elim
    | some k =>
      rw [e] at P2
      refine hg F2 φ2 H2 ρ γ2 σ x y k u w _ R2 (Pk.up x2.f x2.p d1) d2 e ⟨k, rfl, ?_⟩
      cases k with
      | false => exact P2 _ F2 φ2 H2 (Ext.refl _ _ _) R2 (by show Den _ _ _ _ _; rw [Den])
      | true =>
        rw [if_pos rfl]
        have P2 : Post B W (rDen B) F2 φ2 H2 ρ σ ((fc ρ γ2).bind fun z γ => match g' y z with
          | some k => .ok (.bl k) γ
          | none => .stuck) Q := P2
        refine run1 R2 P2 fun z γ3 v3 F3 φ3 H3 x3 R3 d3 P3 => ?_
        cases e2 : g' y z with
        | none => rw [e2] at P3; exact P3.elim
        | some k2 => rw [e2] at P3; exact hg' F3 φ3 H3 ρ γ3 σ y z k2 w v3 Q R3 (Pk.up x3.f x3.p d2) d3 e2 (P3 _ F3 φ3 H3 (Ext.refl _ _ _) R3 (by show Den _ _ _ _ _; rw [Den]))
theorem de_lele (ha : PE X a (tP B W fa)) (hb : PE X b (tP B W fb)) (hc : PE X c (tP B W fc)) (hm : lastMarks [.LtE, .LtE] [b, c] = false := by with_unfolding_all rfl) : PE X (.Compare a [.LtE, .LtE] [b, c] pos) (tE B W (eChain bLe bLe fa fb fc)) := de_chain op_le op_le opb_I opb_I ha hb hc hm
/-! ### is None -/
def bNon : D → Option Bool
  | .non => some true
  | .raw _ => none
  | .mine _ => none
  | .nk _ => none
  | _ => some false
def eIsN (f : ESem) : ESem := fun ρ γ => (f ρ γ).bind fun x γ => match bNon x with
  | some k => .ok (.bl k) γ
  | none => .stuck
def eNotN (f : ESem) : ESem := fun ρ γ => (f ρ γ).bind fun x γ => match bNon x with
  | some k => .ok (.bl (!k)) γ
  | none => .stuck
theorem den_non {C : Ct} {φ : List Addr} {F : Hp} {d : D} {v : V} {k : Bool} (h : Den C φ F d v) (e : bNon d = some k) : decide (v = .non) = k := by
  cases d with
  | non => rw [Den] at h; cases e; rw [h]; rfl
  | bl b => rw [Den] at h; cases e; rw [h]; rfl
  | int b => rw [Den] at h; cases e; rw [h]; rfl
  | str b => rw [Den] at h; cases e; rw [h]; rfl
  | tup b => rw [Den] at h; cases e; obtain ⟨_, _, rfl, _⟩ := h; rfl
  | lst b => rw [Den] at h; cases e; obtain ⟨_, _, rfl, _⟩ := h; rfl
  | dic b => rw [Den] at h; cases e; obtain ⟨_, _, rfl, _⟩ := h; rfl
  | dik b => rw [Den] at h; cases e; obtain ⟨_, _, rfl, _⟩ := h; rfl
  | ins b => rw [Den] at h; cases e; obtain ⟨_, _, _, rfl, _⟩ := h; rfl
  | cell b => rw [Den] at h; cases e; obtain ⟨_, _, rfl⟩ := h; rfl
  | scr b => rw [Den] at h; cases e; obtain ⟨_, rfl, _⟩ := h; rfl
  | raw b => cases e
  | mine b => cases e
  | nk b => cases e
  | exc b => rw [Den] at h; cases e; obtain ⟨_, _, _, rfl, _⟩ := h; rfl
theorem de_isN {j : Nat} {p2 : Pos} (ha : PE X a (tE B W fa)) : PE X (.Compare a [.Is] [.Constant .none j p2] pos) (tE B W (eIsN fa)) :=
  PE.imp (pe_cmp (pc_isN ha) rfl) fun σ H Q ⟨F, φ, ρ, γ, R, P⟩ => by
    refine run1 R P fun x γ1 u F1 φ1 H1 x1 R1 d1 P1 => ?_
    cases e : bNon x with
    | none => rw [e] at P1; exact P1.elim
    | some k =>
      rw [e] at P1
      rw [den_non d1 e]
      exact P1 _ F1 φ1 H1 (Ext.refl _ _ _) R1 (by show Den _ _ _ _ _; rw [Den])
theorem de_notN {j : Nat} {p2 : Pos} (ha : PE X a (tE B W fa)) : PE X (.Compare a [.IsNot] [.Constant .none j p2] pos) (tE B W (eNotN fa)) :=
  PE.imp (pe_cmp (pc_notN ha) rfl) fun σ H Q ⟨F, φ, ρ, γ, R, P⟩ => by
    refine run1 R P fun x γ1 u F1 φ1 H1 x1 R1 d1 P1 => ?_
    cases e : bNon x with
    | none => rw [e] at P1; exact P1.elim
    | some k =>
      rw [e] at P1
      rw [den_non d1 e]
      exact P1 _ F1 φ1 H1 (Ext.refl _ _ _) R1 (by show Den _ _ _ _ _; rw [Den])
end

/-! ### in: flat items -/
def D.flat : D → Bool
  | .non => true
  | .bl _ => true
  | .int _ => true
  | .str _ => true
  | _ => false
def D.v : D → V
  | .bl b => .bl b
  | .int i => .int i
  | .str x => .str x
  | _ => .non
theorem flat_den {C : Ct} {φ : List Addr} {F : Hp} {d : D} {v : V} (f : d.flat = true) (h : Den C φ F d v) : v = d.v ∧ flatV v = true := by
  cases d with
  | non => rw [Den] at h; subst h; exact ⟨rfl, rfl⟩
  | bl b => rw [Den] at h; subst h; exact ⟨rfl, rfl⟩
  | int i => rw [Den] at h; subst h; exact ⟨rfl, rfl⟩
  | str x => rw [Den] at h; subst h; exact ⟨rfl, rfl⟩
  | _ => cases f
theorem flat_dens {C : Ct} {φ : List Addr} {F : Hp} : ∀ {ds : List D} {vs : List V}, ds.all D.flat = true → Dens C φ F ds vs → vs = ds.map D.v ∧ vs.all flatV = true
  | [], vs, _, h => by rw [Dens] at h; subst h; exact ⟨rfl, rfl⟩
  | d :: ds, vs, f, h => by
    rw [Dens] at h
    obtain ⟨v, r, rfl, h1, h2⟩ := h
    rw [List.all_cons, Bool.and_eq_true] at f
    obtain ⟨e1, e2⟩ := flat_den f.1 h1
    obtain ⟨e3, e4⟩ := flat_dens f.2 h2
    exact ⟨by rw [List.map_cons, e1, e3], by rw [List.all_cons, e2, e4]; rfl⟩
theorem eqV_flat {a b : D} (fa : a.flat = true) (fb : b.flat = true) : eqV a.v b.v = D.eqB a b := by
  cases a <;> (try cases fa) <;> cases b <;> (try cases fb) <;> simp [D.v, eqV, D.eqB]
theorem inV_flat {x : D} (fx : x.flat = true) : ∀ {ds : List D}, ds.all D.flat = true → inV x.v (ds.map D.v) = ds.any fun y => D.eqB y x
  | [], _ => rfl
  | d :: ds, f => by
    rw [List.all_cons, Bool.and_eq_true] at f
    have ih := inV_flat fx f.2
    unfold inV at ih ⊢
    rw [List.map_cons, List.any_cons, List.any_cons, ih, eqV_flat f.1 fx]
def dIn : D → D → Option Bool
  | x, .lst ds => if (x.flat && ds.all D.flat) = true then some (ds.any fun y => D.eqB y x) else none
  | x, .tup ds => if (x.flat && ds.all D.flat) = true then some (ds.any fun y => D.eqB y x) else none
  | _, _ => none
def dNotIn (a b : D) : Option Bool := (dIn a b).map not
section
variable {X : Cx} {B : Fx} {W : WX} {a b c : Expr} {fa fb fc : ESem} {pos : Pos} {ca cb : CSem} {rest : List Expr}
theorem pk_flat {F H : Hp} {φ : List Addr} {ρ : Env} {γ : List D} {σ : St} {d : D} {v : V} (R : Rel B F φ H ρ γ σ) (f : d.flat = true) (h : Pk B ρ σ φ F d v) : v = d.v ∧ flatV v = true := by
  rcases h with h | ⟨j, e, h⟩
  · exact flat_den f h
  · rcases R.fz j _ e with ⟨u, _, q⟩ | ⟨d', a, q, _, _, ow⟩
    · rw [Den] at q; exact q.elim
    · cases q
      cases d <;> first | exact ow.elim | cases f
theorem dIn_ok {neg : Bool} (hK : X.K = B.C.K) {F H : Hp} {φ : List Addr} {ρ : Env} {γ : List D} {σ : St} {a b : D} {x y : V} {k : Bool} {Q : VK} (R : Rel B F φ H ρ γ σ) (p : Pk B ρ σ φ F a x) (q : Pk B ρ σ φ F b y) (e : dIn a b = some k) (G : Q (.bl (if neg then !k else k)) H) : rIn X.K neg x y H Q := by
  rw [hK]
  cases b with
  | lst ds =>
    simp only [dIn] at e
    by_cases h : (a.flat && ds.all D.flat) = true
    · rw [if_pos h] at e
      cases e
      rw [Bool.and_eq_true] at h
      obtain ⟨l, vs, rfl, h1, h2⟩ := Pk.lst R q
      obtain ⟨e1, e2⟩ := pk_flat R h.1 p
      obtain ⟨e3, e4⟩ := flat_dens h.2 h2
      refine ⟨l, vs, rfl, .inl (.inl (.inl h1)), e2, e4, ?_⟩
      rw [e1, e3, inV_flat h.1 h.2]
      exact G
    · rw [if_neg h] at e; cases e
  | tup ds =>
    simp only [dIn] at e
    by_cases h : (a.flat && ds.all D.flat) = true
    · rw [if_pos h] at e
      cases e
      rw [Bool.and_eq_true] at h
      obtain ⟨l, vs, rfl, h1, h2⟩ := Pk.tup R q
      obtain ⟨e1, e2⟩ := pk_flat R h.1 p
      obtain ⟨e3, e4⟩ := flat_dens h.2 h2
      refine ⟨l, vs, rfl, .inr (sqT_same R.c.sub h1), e2, e4, ?_⟩
      rw [e1, e3, inV_flat h.1 h.2]
      exact G
    · rw [if_neg h] at e; cases e
  | _ => cases e
theorem opb_in (hK : X.K = B.C.K) : OpB B (rIn X.K false) dIn := fun F φ H ρ γ σ a b k x y Q R p q e G => dIn_ok (neg := false) hK R p q e G
theorem opb_notIn (hK : X.K = B.C.K) : OpB B (rIn X.K true) dNotIn := fun F φ H ρ γ σ a b k x y Q R p q e G => by
  unfold dNotIn at e
  cases z : dIn a b with
  | none => rw [z] at e; cases e
  | some k' =>
    rw [z] at e
    cases e
    exact dIn_ok (neg := true) hK R p q z G
theorem de_in (hK : X.K = B.C.K) (ha : PE X a (tP B W fa)) (hb : PE X b (tP B W fb)) (hm : behindInMarks .In b = false := by rfl) : PE X (.Compare a [.In] [b] pos) (tE B W (eCmp dIn fa fb)) := de_cmp op_in_seq (opb_in hK) ha hb hm
theorem dt_in (hK : X.K = B.C.K) (ha : PE X a (tP B W fa)) (hb : PE X b (tP B W fb)) (hm : behindInMarks .In b = false := by rfl) : PT X (.Compare a [.In] [b] pos) (tT B W (cCmp dIn fa fb)) := dt_cmp op_in_seq (opb_in hK) ha hb hm
theorem de_notIn (hK : X.K = B.C.K) (ha : PE X a (tP B W fa)) (hb : PE X b (tP B W fb)) (hm : behindInMarks .NotIn b = false := by rfl) : PE X (.Compare a [.NotIn] [b] pos) (tE B W (eCmp dNotIn fa fb)) := de_cmp op_notIn_seq (opb_notIn hK) ha hb hm
theorem dt_notIn (hK : X.K = B.C.K) (ha : PE X a (tP B W fa)) (hb : PE X b (tP B W fb)) (hm : behindInMarks .NotIn b = false := by rfl) : PT X (.Compare a [.NotIn] [b] pos) (tT B W (cCmp dNotIn fa fb)) := dt_cmp op_notIn_seq (opb_notIn hK) ha hb hm

/-! ### subscripts -/
def dIx : D → D → Option D
  | .lst ds, .int i => atI ds i
  | .tup ds, .int i => atI ds i
  | .scr ns, .int i => (atI ns i).map .int
  | .str z, .int i => if z.length ≤ 1000000 then (atI z.cps.toList i).map fun c => .str ⟨#[c]⟩ else none
  | _, _ => none
theorem dens_atI {C : Ct} {φ : List Addr} {F : Hp} {ds : List D} {vs : List V} {i : Int} {d : D} (h : Dens C φ F ds vs) (e : atI ds i = some d) : ∃ v, atI vs i = some v ∧ Den C φ F d v := by
  unfold atI at e ⊢
  rw [← h.len]
  cases q : ixN ds.length i with
  | none => rw [q] at e; cases e
  | some j =>
    rw [q] at e
    obtain ⟨v, h1, h2⟩ := h.at (i := j) e
    exact ⟨v, h1, h2⟩
theorem opd_ix (hK : X.K = B.C.K) : OpD B (rIx X.K) dIx := by
  intro F φ H ρ γ σ a b d x y Q R p q e G
  rw [hK]
  cases a with
  | lst ds =>
    cases b with
    | int i =>
      obtain ⟨l, vs, rfl, h1, h2⟩ := Pk.lst R p
      obtain ⟨v, h3, h4⟩ := dens_atI h2 e
      exact .inl ⟨l, vs, i, v, rfl, Pk.int R q, .inl (.inl h1), h3, G.now R h4⟩
    | _ => cases e
  | tup ds =>
    cases b with
    | int i =>
      obtain ⟨l, vs, rfl, h1, h2⟩ := Pk.tup R p
      obtain ⟨v, h3, h4⟩ := dens_atI h2 e
      exact .inr (.inl ⟨l, vs, i, v, rfl, Pk.int R q, sqT_same R.c.sub h1, h3, G.now R h4⟩)
    | _ => cases e
  | scr ns =>
    cases b with
    | int i =>
      obtain ⟨l, rfl, h1⟩ := Pk.scr R p
      simp only [dIx] at e
      cases z : atI ns i with
      | none => rw [z] at e; cases e
      | some n =>
        rw [z] at e
        cases e
        refine .inl ⟨l, _, i, .int n, rfl, Pk.int R q, sqL_same R.c.sub h1, ?_, G.now R (by rw [Den])⟩
        unfold atI at z ⊢
        rw [List.length_map]
        cases q2 : ixN ns.length i with
        | none => rw [q2] at z; cases z
        | some j =>
          rw [q2] at z
          show (ns.map V.int)[j]? = some (.int n)
          rw [List.getElem?_map, show ns[j]? = some n from z]
          rfl
    | _ => cases e
  | str z =>
    cases b with
    | int i =>
      simp only [dIx] at e
      by_cases h : z.length ≤ 1000000
      · rw [if_pos h] at e
        cases q2 : atI z.cps.toList i with
        | none => rw [q2] at e; cases e
        | some c =>
          rw [q2] at e
          cases e
          exact .inr (.inr ⟨z, i, c, Pk.str R p, Pk.int R q, Nat.le_trans h SZ, q2, G.now R (by rw [Den])⟩)
      · rw [if_neg h] at e; cases e
    | _ => cases e
  | _ => cases e
theorem de_ix (hK : X.K = B.C.K) (ha : PE X a (tP B W fa)) (hb : PE X b (tP B W fb)) (hs : PlainIx b := by exact fun _ _ => rfl) : PE X (.Subscript a b pos) (tE B W (eOp dIx fa fb)) :=
  PE.imp (pe_ix ix_seq ha hb hs) fun σ H Q ⟨F, φ, ρ, γ, R, P⟩ => by
    refine run1 R P fun x γ1 u F1 φ1 H1 x1 R1 d1 P1 => ?_
    refine run1 R1 P1 fun y γ2 w F2 φ2 H2 x2 R2 d2 P2 => ?_
    cases e : dIx x y with
    | none => rw [e] at P2; exact P2.elim
    | some d => rw [e] at P2; exact opd_ix hK F2 φ2 H2 ρ γ2 σ x y d u w Q R2 (Pk.up x2.f x2.p d1) d2 e P2
/-- an item of a mutable list -/
def eIxC (fa fb : ESem) : ESem := fun ρ γ => (fa ρ γ).bind fun x γ => (fb ρ γ).bind fun y γ => match x, y with
  | .cell n, .int i => (match γ[n]? with
    | some (.lst ds) => ofOpt (atI ds i) γ
    | _ => .stuck)
  | _, _ => .stuck
theorem cell_lst {F H : Hp} {φ : List Addr} {ρ : Env} {γ : List D} {σ : St} {n : Nat} {v : V} {ds : List D} (R : Rel B F φ H ρ γ σ) (h : Den B.C φ F (.cell n) v) (e : γ[n]? = some (.lst ds)) : ∃ l vs, v = .ref l ∧ φ[n]? = some l ∧ H l = some (.lst vs) ∧ Dens B.C φ F ds vs := by
  rw [Den] at h
  obtain ⟨l, e1, rfl⟩ := h
  obtain ⟨vs, h1, h2⟩ := R.c.cell n _ l e e1
  exact ⟨l, vs, rfl, e1, h1, h2⟩
theorem de_ixC (hK : X.K = B.C.K) (ha : PE X a (tE B W fa)) (hb : PE X b (tE B W fb)) (hs : PlainIx b := by exact fun _ _ => rfl) : PE X (.Subscript a b pos) (tE B W (eIxC fa fb)) :=
  PE.imp (pe_ix ix_list ha hb hs) fun σ H Q ⟨F, φ, ρ, γ, R, P⟩ => by
    refine run1 R P fun x γ1 u F1 φ1 H1 x1 R1 d1 P1 => ?_
    refine run1 R1 P1 fun y γ2 w F2 φ2 H2 x2 R2 d2 P2 => ?_
    have d1' := Den.same x2.f x2.p _ _ d1
    cases x with
    | cell n =>
      cases y with
      | int i =>
        simp only at P2
        cases e : γ2[n]? with
        | none => rw [e] at P2; exact P2.elim
        | some c =>
          rw [e] at P2
          cases c with
          | lst ds =>
            obtain ⟨l, vs, rfl, _, h1, h2⟩ := cell_lst R2 d1' e
            replace P2 : Post B W (rDen B) F2 φ2 H2 ρ σ (ofOpt (atI ds i) γ2) Q := P2
            cases e2 : atI ds i with
            | none => rw [e2] at P2; exact P2.elim
            | some d =>
              rw [e2] at P2
              obtain ⟨v, h3, h4⟩ := dens_atI h2 e2
              have dy : Den B.C φ2 F2 (.int i) w := d2
              rw [Den] at dy
              exact ⟨l, vs, i, v, rfl, dy, .inl (.inl h1), h3, P2 v F2 φ2 H2 (Ext.refl _ _ _) R2 h4⟩
          | _ => exact P2.elim
      | _ => exact P2.elim
    | _ => cases y <;> exact P2.elim
/-! ### slices -/
def cutL {α : Type} (xs : List α) (lo hi : Option Int) : List α := (xs.drop (HT.sIx xs.length 0 lo)).take (HT.sIx xs.length xs.length hi - HT.sIx xs.length 0 lo)
theorem dens_cut {C : Ct} {φ : List Addr} {F : Hp} {ds : List D} {vs : List V} (h : Dens C φ F ds vs) (lo hi : Option Int) : Dens C φ F (cutL ds lo hi) (cutV vs lo hi) := by
  unfold cutL cutV
  rw [← h.len]
  exact (h.drop _).take _
abbrev OSem := Env → List D → Res (Option Int)
def rO : RR (Option Int) (Option Int) := fun _ _ _ _ _ _ a b => a = b
instance : RUp rO := ⟨fun _ _ _ _ _ _ _ _ _ _ h => h⟩
def oNone : OSem := fun _ γ => .ok none γ
def oSome (f : ESem) : OSem := fun ρ γ => (f ρ γ).bind fun x γ => match x with
  | .int i => .ok (some i) γ
  | _ => .stuck
theorem PO.imp {e : Option Expr} {t t' : TO} (h : PO X e t) (i : ∀ σ H Q, t' σ H Q → t σ H Q) : PO X e t' := ⟨fun pins s σ H Q I q => h.run pins s σ H Q I (i σ H Q q)⟩
theorem do_none : PO X none (tG B W rO oNone) := PO.imp po_none fun σ H Q ⟨F, φ, ρ, γ, R, P⟩ => P none F φ H (Ext.refl _ _ _) R rfl
theorem do_some (h : PE X a (tP B W fa)) : PO X (some a) (tG B W rO (oSome fa)) := PO.imp (po_some h) fun σ H Q ⟨F, φ, ρ, γ, R, P⟩ => by
  refine run1 R P fun x γ1 u F1 φ1 H1 x1 R1 d1 P1 => ?_
  cases x with
  | int i => exact ⟨i, Pk.int R1 d1, P1 (some i) F1 φ1 H1 (Ext.refl _ _ _) R1 rfl⟩
  | _ => exact P1.elim
def dSl (x : D) (lo hi : Option Int) : Option D := match x with
  | .lst ds => some (.lst (cutL ds lo hi))
  | .tup ds => some (.tup (cutL ds lo hi))
  | .str z => if z.length ≤ 1000000 then some (.str (cutS z lo hi)) else none
  | _ => none
def eSl (f : ESem) (l h : OSem) : ESem := fun ρ γ => (f ρ γ).bind fun x γ => (l ρ γ).bind fun lo γ => (h ρ γ).bind fun hi γ => ofOpt (dSl x lo hi) γ
theorem de_sl {lo hi : Option Expr} {l h : OSem} {p2 : Pos} (hK : X.K = B.C.K) (ha : PE X a (tP B W fa)) (hl : PO X lo (tG B W rO l)) (hh : PO X hi (tG B W rO h)) : PE X (.Subscript a (.Slice lo hi none p2) pos) (tE B W (eSl fa l h)) :=
  PE.imp (pe_slice (sl_list.or (sl_tupA.or sl_str)) ha hl hh) fun σ H Q ⟨F, φ, ρ, γ, R, P⟩ => by
    refine run1 R P fun x γ1 u F1 φ1 H1 x1 R1 d1 P1 => ?_
    refine run1 R1 P1 fun lo γ2 lo' F2 φ2 H2 x2 R2 d2 P2 => ?_
    refine run1 R2 P2 fun hi γ3 hi' F3 φ3 H3 x3 R3 d3 P3 => ?_
    cases (show lo = lo' from d2)
    cases (show hi = hi' from d3)
    have d1 := Pk.up x3.f x3.p (Pk.up x2.f x2.p d1)
    rw [hK]
    cases x with
    | lst ds =>
      obtain ⟨a, vs, rfl, h1, h2⟩ := Pk.lst R3 d1
      exact .inl ⟨a, vs, rfl, .inl (.inl h1), fun p hp => Gv.lst P3 R3 (dens_cut h2 lo hi) hp⟩
    | tup ds =>
      obtain ⟨a, vs, rfl, h1, h2⟩ := Pk.tup R3 d1
      refine .inr (.inl ⟨a, vs, rfl, sqT_same R3.c.sub h1, fun hw => ?_, fun _ p hp => Gv.tup P3 R3 (dens_cut h2 lo hi) hp⟩)
      have e : cutL ds lo hi = ds := by
        unfold cutL
        rw [h2.len, hw.1, hw.2]
        simp [← h2.len]
      simp only [dSl, e] at P3
      exact P3 _ F3 φ3 H3 (Ext.refl _ _ _) R3 (by show Den _ _ _ _ _; rw [Den]; exact ⟨a, vs, rfl, h1, h2⟩)
    | str z =>
      simp only [dSl] at P3
      by_cases h : z.length ≤ 1000000
      · rw [if_pos h] at P3
        exact .inr (.inr ⟨z, Pk.str R3 d1, Nat.le_trans h SZ, P3 _ F3 φ3 H3 (Ext.refl _ _ _) R3 (by show Den _ _ _ _ _; rw [Den])⟩)
      · rw [if_neg h] at P3; exact P3.elim
    | _ => exact P3.elim
end
end DL

/-! DL5: calls of built-ins -/
namespace DL
open PySem PySem.Spec PyProof.Rows L2
def CallD (B : Fx) (r : List V → Hp → VK → Prop) (g : List D → Option D) : Prop := ∀ (F : Hp) (φ : List Addr) (H : Hp) (ρ : Env) (γ : List D) (σ : St) (ds : List D) (d : D) (vs : List V) (Q : VK), Rel B F φ H ρ γ σ → Pks B ρ σ φ F ds vs → g ds = some d → Gv B F φ H ρ γ σ d Q → r vs H Q
def CallF (B : Fx) (r : List V → Hp → VK → Prop) (g : List D → Option D) : Prop := ∀ (F : Hp) (φ : List Addr) (H : Hp) (ρ : Env) (γ : List D) (σ : St) (ds : List D) (d : D) (vs : List V) (Q : VK), Rel B F φ H ρ γ σ → Pks B ρ σ φ F ds vs → g ds = some d → Gf B F φ H ρ γ σ d Q → r vs H Q
def eCall (g : List D → Option D) (fs : Env → List D → Res (List D)) : ESem := fun ρ γ => (fs ρ γ).bind fun ds γ => ofOpt (g ds) γ
section
variable {X : Cx} {B : Fx} {W : WX} {e : Expr} {es : List Expr} {fs : Env → List D → Res (List D)} {p pos : Pos} {x : Str} {id T : String} {r : List V → Hp → VK → Prop} {g : List D → Option D}
theorem de_callB (hc : CallR X (.builtin id) r) (hg : CallD B r g) (gl : Gl X x) (hm : X.mg x = none) (hv : bootBuiltins x = some (.builtin id)) (ha : PA X (e :: es) (tPs B W fs)) (hn : x ≠ "__name__" := by decide) (hdb : (x == ("__debug__" : Str)) = false := by decide)
    (he : starEach (e :: es) X.env = (false, eval e X.env) :: starEach es X.env := by rfl) (hpl : (backTo pos (starEach es X.env)).any (·.1) = false := by rfl) : PE X (.Call (.Name x p) (e :: es) [] pos) (tE B W (eCall g fs)) :=
  PE.imp (pe_callB hc gl hm hv ha hn hdb he hpl) fun σ H Q ⟨F, φ, ρ, γ, R, P⟩ => by
    refine run1 R P fun ds γ1 vs F1 φ1 H1 x1 R1 d1 P1 => ?_
    cases e : g ds with
    | none => rw [e] at P1; exact P1.elim
    | some d => rw [e] at P1; exact hg F1 φ1 H1 ρ γ1 σ ds d vs Q R1 d1 e P1
theorem de_callT (hc : CallR X (.type T) r) (hg : CallD B r g) (gl : Gl X x) (hm : X.mg x = none) (hv : bootBuiltins x = some (.type T)) (ha : PA X (e :: es) (tPs B W fs)) (hn : x ≠ "__name__" := by decide) (hdb : (x == ("__debug__" : Str)) = false := by decide)
    (he : starEach (e :: es) X.env = (false, eval e X.env) :: starEach es X.env := by rfl) (hpl : (backTo pos (starEach es X.env)).any (·.1) = false := by rfl) : PE X (.Call (.Name x p) (e :: es) [] pos) (tE B W (eCall g fs)) :=
  PE.imp (pe_callTy hc gl hm hv ha hn hdb he hpl) fun σ H Q ⟨F, φ, ρ, γ, R, P⟩ => by
    refine run1 R P fun ds γ1 vs F1 φ1 H1 x1 R1 d1 P1 => ?_
    cases e : g ds with
    | none => rw [e] at P1; exact P1.elim
    | some d => rw [e] at P1; exact hg F1 φ1 H1 ρ γ1 σ ds d vs Q R1 d1 e P1
theorem df_callT (hc : CallR X (.type T) r) (hg : CallF B r g) (gl : Gl X x) (hm : X.mg x = none) (hv : bootBuiltins x = some (.type T)) (ha : PA X (e :: es) (tPs B W fs)) (hn : x ≠ "__name__" := by decide) (hdb : (x == ("__debug__" : Str)) = false := by decide)
    (he : starEach (e :: es) X.env = (false, eval e X.env) :: starEach es X.env := by rfl) (hpl : (backTo pos (starEach es X.env)).any (·.1) = false := by rfl) : PE X (.Call (.Name x p) (e :: es) [] pos) (tF B W (eCall g fs)) :=
  PE.imp (pe_callTy hc gl hm hv ha hn hdb he hpl) fun σ H Q ⟨F, φ, ρ, γ, R, P⟩ => by
    refine run1 R P fun ds γ1 vs F1 φ1 H1 x1 R1 d1 P1 => ?_
    cases e : g ds with
    | none => rw [e] at P1; exact P1.elim
    | some d => rw [e] at P1; exact hg F1 φ1 H1 ρ γ1 σ ds d vs Q R1 d1 e P1
end
theorem Pks.one {B : Fx} {ρ : Env} {σ : St} {φ : List Addr} {F : Hp} {d : D} {vs : List V} (h : Pks B ρ σ φ F [d] vs) : ∃ v, vs = [v] ∧ Pk B ρ σ φ F d v := by
  cases h with
  | cons h t => cases t; exact ⟨_, rfl, h⟩
theorem Pks.two {B : Fx} {ρ : Env} {σ : St} {φ : List Addr} {F : Hp} {d e : D} {vs : List V} (h : Pks B ρ σ φ F [d, e] vs) : ∃ v w, vs = [v, w] ∧ Pk B ρ σ φ F d v ∧ Pk B ρ σ φ F e w := by
  cases h with
  | cons h t =>
    obtain ⟨w, rfl, h2⟩ := Pks.one t
    exact ⟨_, w, rfl, h, h2⟩
/-! ### lists of ints, of truth values -/
def D.ints : List D → Option (List Int)
  | [] => some []
  | .int i :: ds => (D.ints ds).map (i :: ·)
  | _ => none
def D.bls : List D → Option (List Bool)
  | [] => some []
  | .bl i :: ds => (D.bls ds).map (i :: ·)
  | _ => none
theorem ints_den {C : Ct} {φ : List Addr} {F : Hp} : ∀ {ds : List D} {vs : List V} {ns : List Int}, Dens C φ F ds vs → D.ints ds = some ns → vs = ns.map V.int
  | [], vs, ns, h, e => by cases e; rw [Dens] at h; exact h
  | d :: ds, vs, ns, h, e => by
    rw [Dens] at h
    obtain ⟨v, r, rfl, h1, h2⟩ := h
    cases d with
    | int i =>
      rw [D.ints] at e
      cases q : D.ints ds with
      | none => rw [q] at e; cases e
      | some ms =>
        rw [q] at e
        cases e
        rw [Den] at h1
        rw [h1, ints_den h2 q]
        rfl
    | _ => cases e
theorem bls_den {C : Ct} {φ : List Addr} {F : Hp} : ∀ {ds : List D} {vs : List V} {ns : List Bool}, Dens C φ F ds vs → D.bls ds = some ns → vs = ns.map V.bl
  | [], vs, ns, h, e => by cases e; rw [Dens] at h; exact h
  | d :: ds, vs, ns, h, e => by
    rw [Dens] at h
    obtain ⟨v, r, rfl, h1, h2⟩ := h
    cases d with
    | bl i =>
      rw [D.bls] at e
      cases q : D.bls ds with
      | none => rw [q] at e; cases e
      | some ms =>
        rw [q] at e
        cases e
        rw [Den] at h1
        rw [h1, bls_den h2 q]
        rfl
    | _ => cases e
section
variable {X : Cx} {B : Fx} {W : WX}
def dLen : List D → Option D
  | [.lst ds] => some (.int ds.length)
  | [.tup ds] => some (.int ds.length)
  | [.scr ns] => some (.int ns.length)
  | [.str z] => if z.length ≤ 1000000 then some (.int z.length) else none
  | _ => none
theorem cd_len (hK : X.K = B.C.K) : CallD B (fun xs H Q => ∃ x n, xs = [x] ∧ LenV X.K x H n ∧ Q (.int n) H) dLen := by
  intro F φ H ρ γ σ ds d vs Q R p e G
  rw [hK]
  match ds, e with
  | [.lst es], e =>
    cases e
    obtain ⟨v, rfl, h⟩ := p.one
    obtain ⟨l, us, rfl, h1, h2⟩ := Pk.lst R h
    exact ⟨_, es.length, rfl, .inl ⟨us, .inl (.inl h1), h2.len⟩, G.now R (by rw [Den])⟩
  | [.tup es], e =>
    cases e
    obtain ⟨v, rfl, h⟩ := p.one
    obtain ⟨l, us, rfl, h1, h2⟩ := Pk.tup R h
    exact ⟨_, es.length, rfl, .inr ⟨us, sqT_same R.c.sub h1, h2.len⟩, G.now R (by rw [Den])⟩
  | [.scr ns], e =>
    cases e
    obtain ⟨v, rfl, h⟩ := p.one
    obtain ⟨l, rfl, h1⟩ := Pk.scr R h
    exact ⟨_, ns.length, rfl, .inl ⟨_, sqL_same R.c.sub h1, by simp⟩, G.now R (by rw [Den])⟩
  | [.str z], e =>
    simp only [dLen] at e
    by_cases hz : z.length ≤ 1000000
    · rw [if_pos hz] at e
      cases e
      obtain ⟨v, rfl, h⟩ := p.one
      have := Pk.str R h
      subst this
      exact ⟨_, z.length, rfl, ⟨Nat.le_trans hz SZ, rfl⟩, G.now R (by rw [Den])⟩
    · rw [if_neg hz] at e; cases e
def dAll : List D → Option D
  | [.lst ds] => (D.bls ds).map fun bs => .bl (bs.all id)
  | _ => none
def dAny : List D → Option D
  | [.lst ds] => (D.bls ds).map fun bs => .bl (bs.any id)
  | _ => none
def dSum : List D → Option D
  | [.lst ds] => (D.ints ds).map fun bs => .int bs.sum
  | _ => none
theorem cd_all (hK : X.K = B.C.K) : CallD B (rAll X.K) dAll := by
  intro F φ H ρ γ σ ds d vs Q R p e G
  rw [hK]
  match ds, e with
  | [.lst es], e =>
    obtain ⟨v, rfl, h⟩ := p.one
    obtain ⟨l, us, rfl, h1, h2⟩ := Pk.lst R h
    simp only [dAll] at e
    cases q : D.bls es with
    | none => rw [q] at e; cases e
    | some bs =>
      rw [q] at e
      cases e
      have := bls_den h2 q
      subst this
      exact ⟨l, bs, rfl, .inl (.inl h1), G.now R (by rw [Den])⟩
theorem cd_any (hK : X.K = B.C.K) : CallD B (rAny X.K) dAny := by
  intro F φ H ρ γ σ ds d vs Q R p e G
  rw [hK]
  match ds, e with
  | [.lst es], e =>
    obtain ⟨v, rfl, h⟩ := p.one
    obtain ⟨l, us, rfl, h1, h2⟩ := Pk.lst R h
    simp only [dAny] at e
    cases q : D.bls es with
    | none => rw [q] at e; cases e
    | some bs =>
      rw [q] at e
      cases e
      have := bls_den h2 q
      subst this
      exact ⟨l, bs, rfl, .inl (.inl h1), G.now R (by rw [Den])⟩
theorem cd_sum (hK : X.K = B.C.K) : CallD B (rSum X.K) dSum := by
  intro F φ H ρ γ σ ds d vs Q R p e G
  rw [hK]
  match ds, e with
  | [.lst es], e =>
    obtain ⟨v, rfl, h⟩ := p.one
    obtain ⟨l, us, rfl, h1, h2⟩ := Pk.lst R h
    simp only [dSum] at e
    cases q : D.ints es with
    | none => rw [q] at e; cases e
    | some bs =>
      rw [q] at e
      cases e
      have := ints_den h2 q
      subst this
      exact ⟨l, bs, rfl, .inl (.inl h1), G.now R (by rw [Den])⟩
def dAbs : List D → Option D
  | [.int i] => some (.int (if i < 0 then -i else i))
  | _ => none
theorem cd_abs : CallD B (fun xs H Q => ∃ i, xs = [.int i] ∧ Q (.int (if i < 0 then -i else i)) H) dAbs := by
  intro F φ H ρ γ σ ds d vs Q R p e G
  match ds, e with
  | [.int i], e =>
    cases e
    obtain ⟨v, rfl, h⟩ := p.one
    have := Pk.int R h
    subst this
    exact ⟨i, rfl, G.now R (by rw [Den])⟩
def dMax : List D → Option D
  | [.int i, .int j] => some (.int (if j > i then j else i))
  | _ => none
def dMin : List D → Option D
  | [.int i, .int j] => some (.int (if j < i then j else i))
  | _ => none
theorem cd_max : CallD B (fun xs H Q => ∃ i j, xs = [.int i, .int j] ∧ Q (.int (if j > i then j else i)) H) dMax := by
  intro F φ H ρ γ σ ds d vs Q R p e G
  match ds, e with
  | [.int i, .int j], e =>
    cases e
    obtain ⟨v, w, rfl, h, h'⟩ := p.two
    have := Pk.int R h
    subst this
    have := Pk.int R h'
    subst this
    exact ⟨i, j, rfl, G.now R (by rw [Den])⟩
theorem cd_min : CallD B (fun xs H Q => ∃ i j, xs = [.int i, .int j] ∧ Q (.int (if j < i then j else i)) H) dMin := by
  intro F φ H ρ γ σ ds d vs Q R p e G
  match ds, e with
  | [.int i, .int j], e =>
    cases e
    obtain ⟨v, w, rfl, h, h'⟩ := p.two
    have := Pk.int R h
    subst this
    have := Pk.int R h'
    subst this
    exact ⟨i, j, rfl, G.now R (by rw [Den])⟩
def dTup : List D → Option D
  | [.lst ds] => some (.tup ds)
  | [.tup ds] => some (.tup ds)
  | _ => none
def dLst : List D → Option D
  | [.lst ds] => some (.lst ds)
  | [.tup ds] => some (.lst ds)
  | _ => none
theorem cd_tuple (hK : X.K = B.C.K) : CallD B (fun xs H Q => ∃ p ys, xs = [.ref p] ∧ ((SqL X.K H p ys ∧ ∀ l, H l = none → Q (.ref l) (upd H l (.tup ys))) ∨ (SqT X.K H p ys ∧ Q (.ref p) H))) dTup := by
  intro F φ H ρ γ σ ds d vs Q R p e G
  rw [hK]
  match ds, e with
  | [.lst es], e =>
    cases e
    obtain ⟨v, rfl, h⟩ := p.one
    obtain ⟨l, us, rfl, h1, h2⟩ := Pk.lst R h
    exact ⟨l, us, rfl, .inl ⟨.inl (.inl h1), fun p hp => G.tup R h2 hp⟩⟩
  | [.tup es], e =>
    cases e
    obtain ⟨v, rfl, h⟩ := p.one
    obtain ⟨l, us, rfl, h1, h2⟩ := Pk.tup R h
    exact ⟨l, us, rfl, .inr ⟨sqT_same R.c.sub h1, G.now R (by rw [Den]; exact ⟨l, us, rfl, h1, h2⟩)⟩⟩
theorem cd_list (hK : X.K = B.C.K) : CallD B (fun xs H Q => ∃ p ys, xs = [.ref p] ∧ (SqL X.K H p ys ∨ SqT X.K H p ys) ∧ ∀ l, H l = none → Q (.ref l) (upd H l (.lst ys))) dLst := by
  intro F φ H ρ γ σ ds d vs Q R p e G
  rw [hK]
  match ds, e with
  | [.lst es], e =>
    cases e
    obtain ⟨v, rfl, h⟩ := p.one
    obtain ⟨l, us, rfl, h1, h2⟩ := Pk.lst R h
    exact ⟨l, us, rfl, .inl (.inl (.inl h1)), fun p hp => G.lst R h2 hp⟩
  | [.tup es], e =>
    cases e
    obtain ⟨v, rfl, h⟩ := p.one
    obtain ⟨l, us, rfl, h1, h2⟩ := Pk.tup R h
    exact ⟨l, us, rfl, .inr (sqT_same R.c.sub h1), fun p hp => G.lst R h2 hp⟩
theorem cf_list (hK : X.K = B.C.K) : CallF B (fun xs H Q => ∃ p ys, xs = [.ref p] ∧ (SqL X.K H p ys ∨ SqT X.K H p ys) ∧ ∀ l, H l = none → Q (.ref l) (upd H l (.lst ys))) dLst := by
  intro F φ H ρ γ σ ds d vs Q R p e G
  rw [hK]
  match ds, e with
  | [.lst es], e =>
    cases e
    obtain ⟨v, rfl, h⟩ := p.one
    obtain ⟨l, us, rfl, h1, h2⟩ := Pk.lst R h
    exact ⟨l, us, rfl, .inl (.inl (.inl h1)), fun p hp => G.lst R h2 hp⟩
  | [.tup es], e =>
    cases e
    obtain ⟨v, rfl, h⟩ := p.one
    obtain ⟨l, us, rfl, h1, h2⟩ := Pk.tup R h
    exact ⟨l, us, rfl, .inr (sqT_same R.c.sub h1), fun p hp => G.lst R h2 hp⟩
/-! ### isinstance, a built-in class -/
def D.ty : D → Option String
  | .non => some "NoneType"
  | .bl _ => some "bool"
  | .int _ => some "int"
  | .str _ => some "str"
  | .tup _ => some "tuple"
  | .lst _ => some "list"
  | .dik _ _ => some "dict"
  | _ => none
theorem ty_ok {F H : Hp} {φ : List Addr} {ρ : Env} {γ : List D} {σ : St} {d : D} {v : V} {t : String} (R : Rel B F φ H ρ γ σ) (h : Pk B ρ σ φ F d v) (e : d.ty = some t) : TyX B.C.K H v (.type t) := by
  cases d with
  | non => cases e; rw [Pk.non R h]; exact .base .non
  | bl b => cases e; rw [Pk.bl R h]; exact .base (.bl b)
  | int b => cases e; rw [Pk.int R h]; exact .base (.int b)
  | str b => cases e; rw [Pk.str R h]; exact .base (.str b)
  | tup ds =>
    cases e
    obtain ⟨a, vs, rfl, h1, h2⟩ := Pk.tup R h
    rcases sqT_same R.c.sub h1 with (q | ⟨o, q⟩) | ⟨o, its, n, q, c, _⟩
    · exact .base (.tup q)
    · exact .fTuple q
    · exact .kTuple q c
  | lst ds =>
    cases e
    obtain ⟨a, vs, rfl, h1, h2⟩ := Pk.lst R h
    exact .base (.lst h1)
  | dik ks ds =>
    cases e
    rcases h with h | ⟨j, e, h⟩
    · rw [Den] at h
      obtain ⟨a, vs, rfl, h1, _⟩ := h
      exact .base (.dK (R.c.sub _ _ h1))
    · rcases R.fz j _ e with ⟨u, _, q⟩ | ⟨d', a, q, h2, _, ow⟩
      · rw [Den] at q; exact q.elim
      · cases q
        obtain ⟨vs, h3, _⟩ := ow
        rw [h] at h2
        have : v = .ref a := by injection h2 with h2; injection h2
        subst this
        exact .base (.dK h3)
  | _ => cases e
/-- what isinstance answers for the types that occur -/
def isiT : String → String → Option Bool
  | "int", "int" => some true
  | "bool", "int" => some true
  | "NoneType", "int" => some false
  | "str", "int" => some false
  | "tuple", "int" => some false
  | "list", "int" => some false
  | "dict", "int" => some false
  | "bool", "bool" => some true
  | "int", "bool" => some false
  | "NoneType", "bool" => some false
  | "str", "bool" => some false
  | "tuple", "bool" => some false
  | "list", "bool" => some false
  | "dict", "bool" => some false
  | "str", "str" => some true
  | "int", "str" => some false
  | "bool", "str" => some false
  | "NoneType", "str" => some false
  | "tuple", "str" => some false
  | "list", "str" => some false
  | "dict", "str" => some false
  | "tuple", "tuple" => some true
  | "int", "tuple" => some false
  | "bool", "tuple" => some false
  | "NoneType", "tuple" => some false
  | "str", "tuple" => some false
  | "list", "tuple" => some false
  | "dict", "tuple" => some false
  | _, _ => none
theorem isiT_ok {K : PySem.W.Frag} {t T : String} {k : Bool} (e : isiT t T = some k) : PySem.W.kitOne K (.type t) (.type T) = some k := by
  unfold isiT at e
  split at e <;> first | (cases e; exact kit_ty (by decide +kernel)) | cases e
/-- the kind of data, seen at once -/
def dIs (T : String) (d : D) : Option Bool := d.ty.bind fun t => isiT t T
def dIsi : List D → Option D
  | [d, .raw (.ty T)] => (dIs T d).map .bl
  | _ => none
theorem cd_isi (hK : X.K = B.C.K) : CallD B (rIsi X.K) dIsi := by
  intro F φ H ρ γ σ ds d vs Q R p e G
  rw [hK]
  match ds, e with
  | [c, .raw (.ty T)], e =>
    obtain ⟨v, w, rfl, h, h'⟩ := p.two
    simp only [dIsi, dIs] at e
    cases q : c.ty with
    | none => rw [q] at e; cases e
    | some t =>
      rw [q] at e
      simp only [Option.bind_some] at e
      cases q2 : isiT t T with
      | none => rw [q2] at e; cases e
      | some k =>
        rw [q2] at e
        cases e
        have hw : w = .ty T := by
          rcases h' with h' | ⟨j, e, h'⟩
          · rw [Den] at h'; exact h'
          · rcases R.fz j _ e with ⟨u, _, q⟩ | ⟨d', a, q, _, _, ow⟩
            · rw [Den] at q; exact q.elim
            · cases q; exact ow.elim
        subst hw
        exact ⟨v, .ty T, .type t, .type T, k, rfl, .ty T, ty_ok R h q, isiT_ok q2, G.now R (by rw [Den])⟩
end
end DL

/-! DL6: statements -/
namespace DL
open PySem PySem.Spec PyProof.Rows L2
inductive Out where
  | nx (ρ : Env) (γ : List D)
  | rt (d : D) (γ : List D)
  | bk (ρ : Env) (γ : List D)
  | ct (ρ : Env) (γ : List D)
  | err (c : Nat) (ρ : Env) (γ : List D)
  | stuck
abbrev SSem := Env → List D → Out
def toOut {α : Type} (r : Res α) (ρ : Env) (k : α → List D → Out) : Out := match r with
  | .ok a γ => k a γ
  | .err c γ => .err c ρ γ
  | .stuck => .stuck
@[simp] theorem toOut_ok {α : Type} (a : α) (γ : List D) (ρ : Env) (k : α → List D → Out) : toOut (.ok a γ) ρ k = k a γ := rfl
@[simp] theorem toOut_err {α : Type} (c : Nat) (γ : List D) (ρ : Env) (k : α → List D → Out) : toOut (.err c γ) ρ k = .err c ρ γ := rfl
@[simp] theorem toOut_stuck {α : Type} (ρ : Env) (k : α → List D → Out) : toOut .stuck ρ k = .stuck := rfl
def SPost (B : Fx) (W : WX) (F : Hp) (φ : List Addr) (o : Out) (E : Ends) : Prop := match o with
  | .nx ρ' γ' => ∀ σ' F' φ' H', Same F F' → φ <+: φ' → Rel B F' φ' H' ρ' γ' σ' → E.nx σ' H'
  | .rt d γ' => ∀ v ρ' σ' F' φ' H', Same F F' → φ <+: φ' → Rel B F' φ' H' ρ' γ' σ' → Den B.C φ' F' d v → E.rt v H'
  | .bk ρ' γ' => ∀ σ' F' φ' H', Same F F' → φ <+: φ' → Rel B F' φ' H' ρ' γ' σ' → E.bk σ' H'
  | .ct ρ' γ' => ∀ σ' F' φ' H', Same F F' → φ <+: φ' → Rel B F' φ' H' ρ' γ' σ' → E.ct σ' H'
  | .err c ρ' γ' => ∀ σ' F' φ' H', Same F F' → φ <+: φ' → Rel B F' φ' H' ρ' γ' σ' → W (.ref (B.C.exc c)) none σ' H'
  | .stuck => False
def tS (B : Fx) (W : WX) (f : SSem) : TS := fun E σ H => ∃ F φ ρ γ, Rel B F φ H ρ γ σ ∧ SPost B W F φ (f ρ γ) E
section
variable {B : Fx} {W : WX}
theorem SPost.up {F F' : Hp} {φ φ' : List Addr} {o : Out} {E : Ends} (s : Same F F') (p : φ <+: φ') (h : SPost B W F φ o E) : SPost B W F' φ' o E := by
  cases o with
  | nx ρ γ => exact fun σ' F2 φ2 H2 s2 p2 => h σ' F2 φ2 H2 (same_trans s s2) (p.trans p2)
  | rt d γ => exact fun v ρ' σ' F2 φ2 H2 s2 p2 => h v ρ' σ' F2 φ2 H2 (same_trans s s2) (p.trans p2)
  | bk ρ γ => exact fun σ' F2 φ2 H2 s2 p2 => h σ' F2 φ2 H2 (same_trans s s2) (p.trans p2)
  | ct ρ γ => exact fun σ' F2 φ2 H2 s2 p2 => h σ' F2 φ2 H2 (same_trans s s2) (p.trans p2)
  | err c ρ γ => exact fun σ' F2 φ2 H2 s2 p2 => h σ' F2 φ2 H2 (same_trans s s2) (p.trans p2)
  | stuck => exact h
theorem run1S {α β : Type} {R1 : RR α β} {fa : Env → List D → Res α} {k : α → List D → Out} {F H : Hp} {φ : List Addr} {ρ : Env} {γ : List D} {σ : St} {Q1 : β → Hp → Prop} {E : Ends}
    (R : Rel B F φ H ρ γ σ) (P : SPost B W F φ (toOut (fa ρ γ) ρ k) E)
    (hk : ∀ a γ' b F' φ' H', Ext F φ H F' φ' H' → Rel B F' φ' H' ρ γ' σ → R1 ρ σ H φ' F' H' a b → SPost B W F' φ' (k a γ') E → Q1 b H') : tG B W R1 fa σ H Q1 := by
  refine ⟨F, φ, ρ, γ, R, ?_⟩
  cases e : fa ρ γ with
  | ok a γ1 =>
    rw [e] at P
    exact fun b F' φ' H' x R' r => hk a γ1 b F' φ' H' x R' r (SPost.up (o := k a γ1) x.f x.p P)
  | err c γ1 =>
    rw [e] at P
    exact fun F' φ' H' x R' => P σ F' φ' H' x.f x.p R'
  | stuck =>
    rw [e] at P
    exact P.elim
/-! ### slots set -/
theorem get_set {α : Type} {l : List α} {i j : Nat} {x y : α} (h : (l.set i x)[j]? = some y) : (j = i ∧ y = x ∧ i < l.length) ∨ (j ≠ i ∧ l[j]? = some y) := by
  by_cases e : j = i
  · subst e
    by_cases hl : j < l.length
    · rw [List.getElem?_set_self hl] at h
      exact .inl ⟨rfl, (Option.some.inj h).symm, hl⟩
    · rw [List.getElem?_eq_none (by simpa using hl)] at h; cases h
  · rw [List.getElem?_set_ne (Ne.symm e)] at h
    exact .inr ⟨e, h⟩
theorem Rel.set {F H : Hp} {φ : List Addr} {ρ : Env} {γ : List D} {σ : St} {d : D} {v : V} (R : Rel B F φ H ρ γ σ) (h : Den B.C φ F d v) (i : Nat) : Rel B F φ H (ρ.set i (some d)) γ (σ.set i (some v)) := by
  have nm : ∀ d', some d ≠ some (D.mine d') := fun d' z => by cases z; rw [Den] at h; exact h
  refine ⟨R.c, R.e, by rw [List.length_set, List.length_set]; exact R.len, fun j d' e => ?_, fun j k d1 d2 a hjk e1 e2 e3 e4 => ?_⟩
  · rcases get_set e with ⟨rfl, q, hl⟩ | ⟨hj, q⟩
    · cases q
      exact .inl ⟨v, List.getElem?_set_self (by rw [← R.len]; exact hl), h⟩
    · rw [List.getElem?_set_ne (Ne.symm hj)]
      exact R.fz j d' q
  · rcases get_set e1 with ⟨_, q, _⟩ | ⟨hj, q1⟩
    · exact nm _ q.symm
    · rcases get_set e2 with ⟨_, q, _⟩ | ⟨hk, q2⟩
      · exact nm _ q.symm
      · rw [List.getElem?_set_ne (Ne.symm hj)] at e3
        rw [List.getElem?_set_ne (Ne.symm hk)] at e4
        exact R.dj j k d1 d2 a hjk q1 q2 e3 e4
theorem Rel.setMine {F H : Hp} {φ : List Addr} {ρ : Env} {γ : List D} {σ : St} {d : D} {a : Addr} (R : Rel B F φ H ρ γ σ) (al : Alone B F φ a) (ow : Own B.C φ F H a d) (nj : ∀ (j : Nat) (d' : D), ρ[j]? = some (some (.mine d')) → σ[j]? ≠ some (some (.ref a))) (i : Nat) :
    Rel B F φ H (ρ.set i (some (.mine d))) γ (σ.set i (some (.ref a))) := by
  refine ⟨R.c, R.e, by rw [List.length_set, List.length_set]; exact R.len, fun j d' e => ?_, fun j k d1 d2 b hjk e1 e2 e3 e4 => ?_⟩
  · rcases get_set e with ⟨rfl, q, hl⟩ | ⟨hj, q⟩
    · cases q
      exact .inr ⟨d, a, rfl, List.getElem?_set_self (by rw [← R.len]; exact hl), al, ow⟩
    · rw [List.getElem?_set_ne (Ne.symm hj)]
      exact R.fz j d' q
  · rcases get_set e1 with ⟨rfl, q, hl⟩ | ⟨hj, q1⟩
    · rcases get_set e2 with ⟨z, _, _⟩ | ⟨hk, q2⟩
      · exact hjk z.symm
      · rw [List.getElem?_set_self (by rw [← R.len]; exact hl)] at e3
        rw [List.getElem?_set_ne (Ne.symm hk)] at e4
        have : a = b := by injection e3 with e3; injection e3 with e3; injection e3
        subst this
        exact nj k d2 q2 e4
    · rcases get_set e2 with ⟨rfl, q, hl⟩ | ⟨hk, q2⟩
      · rw [List.getElem?_set_self (by rw [← R.len]; exact hl)] at e4
        rw [List.getElem?_set_ne (Ne.symm hj)] at e3
        have : a = b := by injection e4 with e4; injection e4 with e4; injection e4
        subst this
        exact nj j d1 q1 e3
      · rw [List.getElem?_set_ne (Ne.symm hj)] at e3
        rw [List.getElem?_set_ne (Ne.symm hk)] at e4
        exact R.dj j k d1 d2 b hjk q1 q2 e3 e4
/-- a slot forgotten -/
theorem Rel.forget {F H : Hp} {φ : List Addr} {ρ : Env} {γ : List D} {σ : St} (R : Rel B F φ H ρ γ σ) (i : Nat) : Rel B F φ H (ρ.set i none) γ σ := by
  refine ⟨R.c, R.e, by rw [List.length_set]; exact R.len, fun j d' e => ?_, fun j k d1 d2 a hjk e1 e2 e3 e4 => ?_⟩
  · rcases get_set e with ⟨_, q, _⟩ | ⟨hj, q⟩
    · cases q
    · exact R.fz j d' q
  · rcases get_set e1 with ⟨_, q, _⟩ | ⟨hj, q1⟩
    · cases q
    · rcases get_set e2 with ⟨_, q, _⟩ | ⟨hk, q2⟩
      · cases q
      · exact R.dj j k d1 d2 a hjk q1 q2 e3 e4
/-- both lists forget a slot -/
theorem Rel.forget2 {F H : Hp} {φ : List Addr} {ρ : Env} {γ : List D} {σ : St} (R : Rel B F φ H ρ γ σ) (i : Nat) : Rel B F φ H (ρ.set i none) γ (σ.set i none) := by
  refine ⟨R.c, R.e, by rw [List.length_set, List.length_set]; exact R.len, fun j d' e => ?_, fun j k d1 d2 a hjk e1 e2 e3 e4 => ?_⟩
  · rcases get_set e with ⟨_, q, _⟩ | ⟨hj, q⟩
    · cases q
    · rw [List.getElem?_set_ne (Ne.symm hj)]; exact R.fz j d' q
  · rcases get_set e1 with ⟨_, q, _⟩ | ⟨hj, q1⟩
    · cases q
    · rcases get_set e2 with ⟨_, q, _⟩ | ⟨hk, q2⟩
      · cases q
      · rw [List.getElem?_set_ne (Ne.symm hj)] at e3
        rw [List.getElem?_set_ne (Ne.symm hk)] at e4
        exact R.dj j k d1 d2 a hjk q1 q2 e3 e4
end

section
variable {X : Cx} {B : Fx} {W : WX} {st : Stmt} {rest : List Stmt} {f g : SSem} {e : Expr} {fe : ESem} {pos : Pos}
/-! ### blocks -/
def sSkip : SSem := fun ρ γ => .nx ρ γ
def sSeq (f g : SSem) : SSem := fun ρ γ => match f ρ γ with
  | .nx ρ γ => g ρ γ
  | o => o
theorem dss_nil : PSs X [] (tS B W sSkip) := PSs.imp pss_nil fun E σ H ⟨F, φ, ρ, γ, R, P⟩ => P σ F φ H (same_refl _) (List.prefix_refl _) R
theorem ds_pass : PS X (.Pass pos) (tS B W sSkip) := PS.imp ps_pass fun E σ H ⟨F, φ, ρ, γ, R, P⟩ => P σ F φ H (same_refl _) (List.prefix_refl _) R
theorem dss_one (h : PS X st (tS B W f)) : PSs X [st] (tS B W f) := pss_one h
theorem dss_cons (h : PS X st (tS B W f)) (h' : PSs X rest (tS B W g)) : PSs X (st :: rest) (tS B W (sSeq f g)) := PSs.imp (pss_cons h h') fun E σ H ⟨F, φ, ρ, γ, R, P⟩ => by
  refine ⟨F, φ, ρ, γ, R, ?_⟩
  unfold sSeq at P
  cases q : f ρ γ with
  | nx ρ1 γ1 => rw [q] at P; exact fun σ' F' φ' H' s p R' => ⟨F', φ', ρ1, γ1, R', SPost.up (o := g ρ1 γ1) s p P⟩
  | rt d γ1 => rw [q] at P; exact P
  | bk ρ1 γ1 => rw [q] at P; exact P
  | ct ρ1 γ1 => rw [q] at P; exact P
  | err c ρ1 γ1 => rw [q] at P; exact P
  | stuck => rw [q] at P; exact P
def sExpr (f : ESem) : SSem := fun ρ γ => toOut (f ρ γ) ρ fun _ γ => .nx ρ γ
theorem ds_expr (h : PE X e (tE B W fe)) (hs : swapsWith e none pos.line X.env = pure false := by rfl) : PS X (.Expr e pos) (tS B W (sExpr fe)) := PS.imp (ps_expr h hs) fun E σ H ⟨F, φ, ρ, γ, R, P⟩ => by
  refine run1S R P fun d γ1 v F1 φ1 H1 x1 R1 d1 P1 => ?_
  exact P1 σ F1 φ1 H1 (same_refl _) (List.prefix_refl _) R1
def sRet (f : ESem) : SSem := fun ρ γ => toOut (f ρ γ) ρ fun d γ => .rt d γ
theorem ds_ret (h : PE X e (tE B W fe)) : PS X (.Return (some e) pos) (tS B W (sRet fe)) := PS.imp (ps_ret h) fun E σ H ⟨F, φ, ρ, γ, R, P⟩ => by
  refine run1S R P fun d γ1 v F1 φ1 H1 x1 R1 d1 P1 => ?_
  exact P1 v ρ σ F1 φ1 H1 (same_refl _) (List.prefix_refl _) R1 d1
/-- return of one's own list -/
def sRetMine (i : Nat) : SSem := fun ρ γ => match ρ[i]? with
  | some (some (.mine d)) => .rt d γ
  | _ => .stuck
theorem own_freeze {F H : Hp} {φ : List Addr} {ρ : Env} {γ : List D} {σ : St} {i : Nat} {d : D} (R : Rel B F φ H ρ γ σ) (e : ρ[i]? = some (some (.mine d))) : ∃ a o, σ[i]? = some (some (.ref a)) ∧ H a = some o ∧ Same F (upd F a o) ∧ Rel B (upd F a o) φ H (ρ.set i none) γ σ ∧ Den B.C φ (upd F a o) d (.ref a) := by
  rcases R.fz i _ e with ⟨u, _, q⟩ | ⟨d', a, q, h2, al, ow⟩
  · rw [Den] at q; exact q.elim
  · cases q
    have R' := R.forget i
    obtain ⟨o, ho, R2, hd⟩ := R'.freeze al ow fun j d' ej z => by
      rcases get_set ej with ⟨_, q, _⟩ | ⟨hj, q⟩
      · cases q
      · exact R.dj i j d d' a (Ne.symm hj) e q h2 z
    exact ⟨a, o, h2, ho, same_upd al.f, R2, hd⟩
theorem ds_retMine {i : Nat} {x : Str} {p : Pos} (hN : X.N[i]? = some x) (hv : Vis X.env.scope x) (hd : (x == ("__debug__" : Str)) = false := by decide) (hcd : (x == ("__classdict__" : Str)) = false := by decide) : PS X (.Return (some (.Name x p)) pos) (tS B W (sRetMine i)) :=
  PS.imp (ps_ret (pe_var hN hv hd hcd)) fun E σ H ⟨F, φ, ρ, γ, R, P⟩ => by
    unfold sRetMine at P
    split at P
    · rename_i d e
      obtain ⟨a, o, h1, h2, h3, R2, hd⟩ := own_freeze R e
      exact ⟨.ref a, h1, P _ _ σ _ φ H h3 (List.prefix_refl _) R2 hd⟩
    · exact P.elim
def sRetN : SSem := fun _ γ => .rt .non γ
theorem ds_retN : PS X (.Return none pos) (tS B W sRetN) := PS.imp ps_retN fun E σ H ⟨F, φ, ρ, γ, R, P⟩ => P .non ρ σ F φ H (same_refl _) (List.prefix_refl _) R (by rw [Den])
def sIf (c : CSem) (f g : SSem) : SSem := fun ρ γ => toOut (c ρ γ) ρ fun k γ => if k = true then f ρ γ else g ρ γ
theorem ds_if {c : Expr} {a b : List Stmt} {ca : CSem} (hc : PT X c (tT B W ca)) (ha : PSs X a (tS B W f)) (hb : PSs X b (tS B W g)) : PS X (.If c a b pos) (tS B W (sIf ca f g)) := PS.imp (ps_if hc ha hb) fun E σ H ⟨F, φ, ρ, γ, R, P⟩ => by
  refine run1S R P fun k γ1 k' F1 φ1 H1 x1 R1 d1 P1 => ?_
  cases (show k = k' from d1)
  cases k with
  | true => exact ⟨F1, φ1, ρ, γ1, R1, P1⟩
  | false => exact ⟨F1, φ1, ρ, γ1, R1, P1⟩
/-! ### stores -/
def sSet (i : Nat) (f : ESem) : SSem := fun ρ γ => toOut (f ρ γ) ρ fun d γ => .nx (ρ.set i (some d)) γ
def sNew (i : Nat) (f : ESem) : SSem := fun ρ γ => toOut (f ρ γ) ρ fun d γ => .nx (ρ.set i (some (.mine d))) γ
theorem ds_set {i : Nat} {x : Str} {p' : Pos} (hN : X.N.Nodup) (hi : X.N[i]? = some x) (hx : Loc X.env.scope x) (he : PE X e (tE B W fe)) (hs : swapsWith e (some (.Name x p')) pos.line X.env = pure false := by rfl) (hf : X.fn x = true ∨ X.env.scope.names.lookup x = some .local := by first | exact .inl rfl | exact .inr rfl | assumption) :
    PS X (.Assign [.Name x p'] e pos) (tS B W (sSet i fe)) := PS.imp (ps_set (i := i) hN hi hx he hs hf) fun E σ H ⟨F, φ, ρ, γ, R, P⟩ => by
  refine run1S R P fun d γ1 v F1 φ1 H1 x1 R1 d1 P1 => ?_
  exact P1 _ F1 φ1 H1 (same_refl _) (List.prefix_refl _) (R1.set d1 i)
theorem ds_new {i : Nat} {x : Str} {p' : Pos} (hN : X.N.Nodup) (hi : X.N[i]? = some x) (hx : Loc X.env.scope x) (he : PE X e (tF B W fe)) (hs : swapsWith e (some (.Name x p')) pos.line X.env = pure false := by rfl) (hf : X.fn x = true ∨ X.env.scope.names.lookup x = some .local := by first | exact .inl rfl | exact .inr rfl | assumption) :
    PS X (.Assign [.Name x p'] e pos) (tS B W (sNew i fe)) := PS.imp (ps_set (i := i) hN hi hx he hs hf) fun E σ H ⟨F, φ, ρ, γ, R, P⟩ => by
  refine run1S R P fun d γ1 v F1 φ1 H1 x1 R1 d1 P1 => ?_
  obtain ⟨a, rfl, al, ow, nj, _⟩ := d1
  exact P1 _ F1 φ1 H1 (same_refl _) (List.prefix_refl _) (R1.setMine al ow nj i)
/-- x = y, y one's own list, given away -/
def sMove (i j : Nat) : SSem := fun ρ γ => match ρ[j]? with
  | some (some (.mine d)) => .nx ((ρ.set j none).set i (some d)) γ
  | _ => .stuck
theorem ds_move {i j : Nat} {x y : Str} {p' p2 : Pos} (hN : X.N.Nodup) (hi : X.N[i]? = some x) (hx : Loc X.env.scope x) (hj : X.N[j]? = some y) (hv : Vis X.env.scope y) (hs : swapsWith (.Name y p2) (some (.Name x p')) pos.line X.env = pure false := by rfl) (hf : X.fn x = true ∨ X.env.scope.names.lookup x = some .local := by first | exact .inl rfl | exact .inr rfl | assumption)
    (hd : (y == ("__debug__" : Str)) = false := by decide) (hcd : (y == ("__classdict__" : Str)) = false := by decide) : PS X (.Assign [.Name x p'] (.Name y p2) pos) (tS B W (sMove i j)) := PS.imp (ps_set (i := i) hN hi hx (pe_var hj hv hd hcd) hs hf) fun E σ H ⟨F, φ, ρ, γ, R, P⟩ => by
  unfold sMove at P
  split at P
  · rename_i d e
    obtain ⟨a, o, h1, h2, h3, R2, hd⟩ := own_freeze R e
    exact ⟨.ref a, h1, P _ _ φ H h3 (List.prefix_refl _) (R2.set hd i)⟩
  · exact P.elim
/-- two targets, two values -/
def sPar (i j : Nat) (f g : ESem) : SSem := fun ρ γ => toOut (f ρ γ) ρ fun d γ => toOut (g ρ γ) ρ fun d' γ => .nx ((ρ.set i (some d)).set j (some d')) γ
def sParN1 (i j : Nat) (f g : ESem) : SSem := fun ρ γ => toOut (f ρ γ) ρ fun d γ => toOut (g ρ γ) ρ fun d' γ => .nx ((ρ.set i (some (.mine d))).set j (some d')) γ
def sParN2 (i j : Nat) (f g : ESem) : SSem := fun ρ γ => toOut (f ρ γ) ρ fun d γ => toOut (g ρ γ) ρ fun d' γ => .nx ((ρ.set i (some d)).set j (some (.mine d'))) γ
theorem ds_par {i j : Nat} {x y : Str} {a b : Expr} {fa fb : ESem} {px py pt pt2 : Pos} {kt k2 : Nat} (hc : X.calm = true) (hN : X.N.Nodup) (hi : X.N[i]? = some x) (hj : X.N[j]? = some y) (hij : i ≠ j)
    (hx : X.env.scope.names.lookup x = some .local) (hy : X.env.scope.names.lookup y = some .local) (ha : PE X a (tE B W fa)) (hb : PE X b (tE B W fb))
    (hw : swappedStores [.Tuple [.Name x px, .Name y py] kt pt] (.Tuple [a, b] k2 pt2) X.env = pure (some [x, y]) := by rfl) (hs : swapsWithSole [.Tuple [.Name x px, .Name y py] kt pt] (.Tuple [a, b] k2 pt2) pos.line X.env = pure false := by rfl)
    (h1 : starEach [a, b] X.env = (false, eval a X.env) :: starEach [b] X.env := by rfl) (h2 : starEach [b] X.env = (false, eval b X.env) :: starEach [] X.env := by rfl) :
    PS X (.Assign [.Tuple [.Name x px, .Name y py] kt pt] (.Tuple [a, b] k2 pt2) pos) (tS B W (sPar i j fa fb)) := PS.imp (ps_par (i := i) (j := j) hc hN hi hj hij hx hy (pa_cons ha (pa_cons hb pa_nil h2) h1) hw hs) fun E σ H ⟨F, φ, ρ, γ, R, P⟩ => by
  refine run1S R P fun d γ1 v F1 φ1 H1 x1 R1 d1 P1 => ?_
  refine run1S R1 P1 fun d' γ2 v' F2 φ2 H2 x2 R2 d2 P2 => ?_
  exact ⟨v, v', rfl, P2 _ F2 φ2 H2 (same_refl _) (List.prefix_refl _) ((R2.set (Den.same x2.f x2.p _ _ d1) i).set d2 j)⟩
theorem ds_parN1 {i j : Nat} {x y : Str} {a b : Expr} {fa fb : ESem} {px py pt pt2 : Pos} {kt k2 : Nat} (hc : X.calm = true) (hN : X.N.Nodup) (hi : X.N[i]? = some x) (hj : X.N[j]? = some y) (hij : i ≠ j)
    (hx : X.env.scope.names.lookup x = some .local) (hy : X.env.scope.names.lookup y = some .local) (ha : PE X a (tF B W fa)) (hb : PE X b (tE B W fb))
    (hw : swappedStores [.Tuple [.Name x px, .Name y py] kt pt] (.Tuple [a, b] k2 pt2) X.env = pure (some [x, y]) := by rfl) (hs : swapsWithSole [.Tuple [.Name x px, .Name y py] kt pt] (.Tuple [a, b] k2 pt2) pos.line X.env = pure false := by rfl)
    (h1 : starEach [a, b] X.env = (false, eval a X.env) :: starEach [b] X.env := by rfl) (h2 : starEach [b] X.env = (false, eval b X.env) :: starEach [] X.env := by rfl) :
    PS X (.Assign [.Tuple [.Name x px, .Name y py] kt pt] (.Tuple [a, b] k2 pt2) pos) (tS B W (sParN1 i j fa fb)) := PS.imp (ps_par (i := i) (j := j) hc hN hi hj hij hx hy (pa_cons ha (pa_cons hb pa_nil h2) h1) hw hs) fun E σ H ⟨F, φ, ρ, γ, R, P⟩ => by
  refine run1S R P fun d γ1 v F1 φ1 H1 x1 R1 d1 P1 => ?_
  refine run1S R1 P1 fun d' γ2 v' F2 φ2 H2 x2 R2 d2 P2 => ?_
  obtain ⟨a, rfl, al, ow, nj, _⟩ := d1
  exact ⟨_, v', rfl, P2 _ F2 φ2 H2 (same_refl _) (List.prefix_refl _) ((R2.setMine (al.step x2 ow.ex) (ow.sameN x2.f x2.p fun o e t => x2.k a o e al.p t) nj i).set d2 j)⟩
theorem ds_parN2 {i j : Nat} {x y : Str} {a b : Expr} {fa fb : ESem} {px py pt pt2 : Pos} {kt k2 : Nat} (hc : X.calm = true) (hN : X.N.Nodup) (hi : X.N[i]? = some x) (hj : X.N[j]? = some y) (hij : i ≠ j)
    (hx : X.env.scope.names.lookup x = some .local) (hy : X.env.scope.names.lookup y = some .local) (ha : PE X a (tE B W fa)) (hb : PE X b (tF B W fb))
    (hw : swappedStores [.Tuple [.Name x px, .Name y py] kt pt] (.Tuple [a, b] k2 pt2) X.env = pure (some [x, y]) := by rfl) (hs : swapsWithSole [.Tuple [.Name x px, .Name y py] kt pt] (.Tuple [a, b] k2 pt2) pos.line X.env = pure false := by rfl)
    (h1 : starEach [a, b] X.env = (false, eval a X.env) :: starEach [b] X.env := by rfl) (h2 : starEach [b] X.env = (false, eval b X.env) :: starEach [] X.env := by rfl) :
    PS X (.Assign [.Tuple [.Name x px, .Name y py] kt pt] (.Tuple [a, b] k2 pt2) pos) (tS B W (sParN2 i j fa fb)) := PS.imp (ps_par (i := i) (j := j) hc hN hi hj hij hx hy (pa_cons ha (pa_cons hb pa_nil h2) h1) hw hs) fun E σ H ⟨F, φ, ρ, γ, R, P⟩ => by
  refine run1S R P fun d γ1 v F1 φ1 H1 x1 R1 d1 P1 => ?_
  refine run1S R1 P1 fun d' γ2 v' F2 φ2 H2 x2 R2 d2 P2 => ?_
  obtain ⟨a, rfl, al, ow, nj, _⟩ := d2
  have R3 := R2.setMine al ow nj j
  have R4 := (R3.set (Den.same x2.f x2.p _ _ d1) i)
  rw [List.set_comm _ _ (Ne.symm hij), List.set_comm (some (V.ref a)) (some v) (Ne.symm hij)] at R4
  exact ⟨v, _, rfl, P2 _ F2 φ2 H2 (same_refl _) (List.prefix_refl _) R4⟩
/-! ### xs.append(e), xs one's own -/
def sApp (i : Nat) (f : ESem) : SSem := fun ρ γ => match ρ[i]? with
  | some (some (.mine (.lst _))) => toOut (f ρ γ) ρ fun d γ => (match ρ[i]? with
    | some (some (.mine (.lst ds))) => if ds.length < 1000000 then .nx (ρ.set i (some (.mine (.lst (ds ++ [d]))))) γ else .stuck
    | _ => .stuck)
  | _ => .stuck
/-- the owned object at a slot is changed -/
theorem Rel.write {F H : Hp} {φ : List Addr} {ρ : Env} {γ : List D} {σ : St} {i : Nat} {d d' : D} {a : Addr} {o : HO} (R : Rel B F φ H ρ γ σ) (e : ρ[i]? = some (some (.mine d))) (hσ : σ[i]? = some (some (.ref a))) (ow : Own B.C φ F (upd H a o) a d') :
    Rel B F φ (upd H a o) (ρ.set i (some (.mine d'))) γ σ := by
  rcases R.fz i _ e with ⟨u, _, q⟩ | ⟨d0, a0, q, h2, al, ow0⟩
  · rw [Den] at q; exact q.elim
  cases q
  rw [hσ] at h2
  have : a = a0 := by injection h2 with h2; injection h2 with h2; injection h2
  subst this
  have il : i < σ.length := (List.getElem?_eq_some_iff.mp hσ).1
  have nF : ∀ b u, F b = some u → b ≠ a := fun b u e z => by rw [z, al.f] at e; cases e
  obtain ⟨u0, hu0, nt0⟩ := ow0.exN
  refine ⟨⟨fun b u eb => by rw [upd_ne (nF b u eb)]; exact R.c.sub b u eb, R.c.len, R.c.nd, R.c.cF, fun n d1 b e1 e2 => ?_, R.c.tab.upd hu0 nt0⟩, ⟨R.e.f, R.e.p, fun b u eb nb ntb => ?_, R.e.nF, R.e.nφ, fun b u eb => ?_⟩, by rw [List.length_set]; exact R.len, fun j d1 ej => ?_, fun j k d1 d2 b hjk e1 e2 e3 e4 => ?_⟩
  · refine (R.c.cell n d1 b e1 e2).same (same_refl F) (List.prefix_refl _) fun u eu => ?_
    have : b ≠ a := fun z => al.p (z ▸ List.mem_of_getElem? e2)
    rw [upd_ne this]; exact eu
  · have : b ≠ a := fun z => by rw [z, al.h] at eb; cases eb
    rw [upd_ne this]; exact R.e.k b u eb nb ntb
  · obtain ⟨u', hu⟩ := R.e.t b u eb
    by_cases hb : b = a
    · rw [hb, upd_same]; exact ⟨_, rfl⟩
    · rw [upd_ne hb]; exact ⟨u', hu⟩
  · rcases get_set ej with ⟨rfl, q, hl⟩ | ⟨hj, q⟩
    · cases q
      exact .inr ⟨d', a, rfl, hσ, al, ow⟩
    · rcases R.fz j d1 q with z | ⟨d2, b, rfl, h5, al5, ow5⟩
      · exact .inl z
      · have hb : b ≠ a := fun z => by
          subst z
          exact R.dj i j d d2 b (Ne.symm hj) e q hσ h5
        exact .inr ⟨d2, b, rfl, h5, al5, ow5.same (same_refl F) (List.prefix_refl _) fun u eu => by rw [upd_ne hb]; exact eu⟩
  · have key : ∀ {m : Nat} {dm : D}, (ρ.set i (some (.mine d')))[m]? = some (some (.mine dm)) → ∃ dm', ρ[m]? = some (some (.mine dm')) := fun {m dm} h => by
      rcases get_set h with ⟨rfl, _, _⟩ | ⟨_, q⟩
      · exact ⟨d, e⟩
      · exact ⟨dm, q⟩
    obtain ⟨dj, ej⟩ := key e1
    obtain ⟨dk, ek⟩ := key e2
    exact R.dj j k dj dk b hjk ej ek e3 e4
theorem ds_app {i : Nat} {x : Str} {p1 p2 p3 : Pos} (hN : X.N[i]? = some x) (hv : Vis X.env.scope x) (he : PE X e (tE B W fe)) (hd : (x == ("__debug__" : Str)) = false := by decide) (hcd : (x == ("__classdict__" : Str)) = false := by decide)
    (hbase : attributeBase (.Name x p1) "append" X.env (eval (.Name x p1) X.env) = eval (.Name x p1) X.env := by rfl)
    (hfew : ((backTo p3 (starEach [e] X.env)).all (fun x => !x.1) && (backToKw p3 (keywordEach [] X.env)).all (fun x => x.1.isSome) && decide ([e].length + ([] : List Keyword).length + (if ([] : List Keyword).isEmpty then 0 else 1) < 30)) = true := by rfl)
    (hline : (p2.endLine == p3.line) = true := by rfl) (hs : starEach [e] X.env = (false, eval e X.env) :: starEach [] X.env := by rfl) (hplain : (backTo p3 (starEach [] X.env)).any (·.1) = false := by rfl)
    (hsw : swapsWith (.Call (.Attribute (.Name x p1) "append" p2) [e] [] p3) none pos.line X.env = pure false := by rfl) :
    PS X (.Expr (.Call (.Attribute (.Name x p1) "append" p2) [e] [] p3) pos) (tS B W (sApp i fe)) :=
  PS.imp (ps_expr (pe_bm PySem.F.plainAttrs_list PySem.F.slot_list_append PySem.F.type_list_append mt_append (pe_var (i := i) hN hv hd hcd) (pa_cons he pa_nil hs) hbase hfew hline hs hplain) hsw) fun E σ H ⟨F, φ, ρ, γ, R, P⟩ => by
    unfold sApp at P
    split at P
    · rename_i ds0 e0
      rcases R.fz i _ e0 with ⟨u, _, q⟩ | ⟨d', a, q, h2, al, ow⟩
      · rw [Den] at q; exact q.elim
      cases q
      obtain ⟨vs, h3, h4⟩ := ow
      refine ⟨.ref a, h2, .inl ⟨rfl, vs, .inl (.inl h3)⟩, ?_⟩
      refine run1S R P fun d γ1 v F1 φ1 H1 x1 R1 d1 P1 => ?_
      simp only at P1
      by_cases hl : ds0.length < 1000000
      · rw [if_pos hl] at P1
        have h3' : H1 a = some (.lst vs) := x1.k a _ h3 al.p nt_lst
        have h4' := Dens.same x1.f x1.p _ _ h4
        refine ⟨a, vs, v, rfl, rfl, h3', by rw [← h4.len]; exact Nat.lt_of_lt_of_le hl SZ, ?_⟩
        exact P1 σ F1 φ1 _ (same_refl _) (List.prefix_refl _) (R1.write e0 h2 ⟨vs ++ [v], upd_same, h4'.app (.one d1)⟩)
      · rw [if_neg hl] at P1; exact P1.elim
    · exact P.elim
end
end DL

/-! DL7: what is walked, loops, comprehensions -/
namespace DL
open PySem PySem.Spec PyProof.Rows L2
structure SrcOk (C : Ct) (φ : List Addr) (F : Hp) (ds : List D) (J : It) : Prop where
  go : ∀ (i : Nat) (H : Hp), i < ds.length → Same F H → J.go i H
  stop : ∀ (i : Nat) (H : Hp), ds.length ≤ i → Same F H → J.stop i H
  yld : ∀ (i : Nat) (H : Hp) (x : V) (H' : Hp) (d : D), ds[i]? = some d → Same F H → J.yld i H x H' → (H' = H ∧ Den C φ F d x) ∨ ∃ T vs es, d = .tup es ∧ Dens C φ F es vs ∧ x = .ref T ∧ H T = none ∧ H' = upd H T (.tup vs)
def rSrc (B : Fx) : RR (List D) It := fun _ _ _ φ F _ ds J => SrcOk B.C φ F ds J
instance (B : Fx) : RUp (rSrc B) := ⟨fun _ _ _ _ _ _ _ _ _ _ h => h⟩
abbrev LSem := Env → List D → Res (List D)
section
variable {X : Cx} {B : Fx} {W : WX} {tg e : Expr} {fe : ESem} {fs : LSem} {p pos : Pos}
theorem PI.imp {w w' : TI} (h : PI X tg e w) (i : ∀ σ H R, w' σ H R → w σ H R) : PI X tg e w' := ⟨fun pins s σ H R I q => h.run pins s σ H R I (i σ H R q)⟩
def lLst (f : ESem) : LSem := fun ρ γ => (f ρ γ).bind fun x γ => match x with
  | .lst ds => .ok ds γ
  | _ => .stuck
def lTup (f : ESem) : LSem := fun ρ γ => (f ρ γ).bind fun x γ => match x with
  | .tup ds => .ok ds γ
  | _ => .stuck
theorem src_list {C : Ct} {K : PySem.W.Frag} {φ : List Addr} {F : Hp} {a : Addr} {ds : List D} {vs : List V} (ha : ∀ H, Same F H → SqL K H a vs) (hd : Dens C φ F ds vs) : SrcOk C φ F ds (Itl K a) := by
  refine ⟨fun i H hi s => ?_, fun i H hi s => ⟨vs, ha H s, by rw [← hd.len]; exact hi⟩, fun i H x H' d e s y => ?_⟩
  · obtain ⟨v, h1, _⟩ := hd.at (i := i) (d := ds[i]) (by simp [hi])
    exact ⟨vs, v, ha H s, h1⟩
  · obtain ⟨rfl, y⟩ := y
    obtain ⟨v, h1, h2⟩ := hd.at e
    have := y vs (ha _ s)
    rw [h1] at this
    cases this
    exact .inl ⟨rfl, h2⟩
theorem src_tup {C : Ct} {K : PySem.W.Frag} {φ : List Addr} {F : Hp} {a : Addr} {ds : List D} {vs : List V} (ha : ∀ H, Same F H → SqT K H a vs) (hd : Dens C φ F ds vs) : SrcOk C φ F ds (Itt K a) := by
  refine ⟨fun i H hi s => ?_, fun i H hi s => ⟨vs, ha H s, by rw [← hd.len]; exact hi⟩, fun i H x H' d e s y => ?_⟩
  · obtain ⟨v, h1, _⟩ := hd.at (i := i) (d := ds[i]) (by simp [hi])
    exact ⟨vs, v, ha H s, h1⟩
  · obtain ⟨rfl, y⟩ := y
    obtain ⟨v, h1, h2⟩ := hd.at e
    have := y vs (ha _ s)
    rw [h1] at this
    cases this
    exact .inl ⟨rfl, h2⟩
theorem di_list (hK : X.K = B.C.K) (h : PE X e (tE B W fe)) : PI X tg e (tG B W (rSrc B) (lLst fe)) := PI.imp (pi_list h) fun σ H Q ⟨F, φ, ρ, γ, R, P⟩ => by
  refine run1 R P fun d γ1 v F1 φ1 H1 x1 R1 d1 P1 => ?_
  cases d with
  | lst ds =>
    have d1 : Den B.C φ1 F1 (.lst ds) v := d1
    rw [Den] at d1
    obtain ⟨a, vs, rfl, h1, h2⟩ := d1
    refine ⟨a, rfl, ⟨vs, .inl (.inl (R1.c.sub _ _ h1))⟩, P1 _ F1 φ1 H1 (Ext.refl _ _ _) R1 (src_list (fun H s => .inl (.inl (s _ _ h1))) h2)⟩
  | _ => exact P1.elim
theorem di_tup (hK : X.K = B.C.K) (h : PE X e (tE B W fe)) : PI X tg e (tG B W (rSrc B) (lTup fe)) := PI.imp (pi_tup h) fun σ H Q ⟨F, φ, ρ, γ, R, P⟩ => by
  refine run1 R P fun d γ1 v F1 φ1 H1 x1 R1 d1 P1 => ?_
  cases d with
  | tup ds =>
    have d1 : Den B.C φ1 F1 (.tup ds) v := d1
    rw [Den] at d1
    obtain ⟨a, vs, rfl, h1, h2⟩ := d1
    rw [← hK] at h1
    refine ⟨a, rfl, ⟨vs, sqT_same R1.c.sub h1⟩, P1 _ F1 φ1 H1 (Ext.refl _ _ _) R1 (src_tup (fun H s => sqT_same s h1) h2)⟩
  | _ => exact P1.elim
def rangeD (lo : Int) (n : Nat) : List D := (List.range n).map fun (k : Nat) => D.int (lo + (k : Int))
theorem rangeD_get {lo : Int} {n i : Nat} {d : D} (e : (rangeD lo n)[i]? = some d) : i < n ∧ d = .int (lo + (i : Int)) := by
  unfold rangeD at e
  rw [List.getElem?_map] at e
  cases q : (List.range n)[i]? with
  | none => rw [q] at e; cases e
  | some k =>
    rw [q] at e
    obtain ⟨h1, h2⟩ := List.getElem?_eq_some_iff.mp q
    rw [List.length_range] at h1
    rw [List.getElem_range] at h2
    subst h2
    exact ⟨h1, (Option.some.inj e).symm⟩
theorem src_range {C : Ct} {φ : List Addr} {F : Hp} {lo : Int} {n : Nat} : SrcOk C φ F (rangeD lo n) (Itr lo n) := by
  have hl : (rangeD lo n).length = n := by unfold rangeD; simp
  refine ⟨fun i H hi s => by rw [hl] at hi; exact hi, fun i H hi s => by rw [hl] at hi; exact hi, fun i H x H' d e s y => ?_⟩
  obtain ⟨rfl, rfl⟩ := y
  obtain ⟨_, rfl⟩ := rangeD_get e
  exact .inl ⟨rfl, by rw [Den]⟩
def lRng1 (fs : LSem) : LSem := fun ρ γ => (fs ρ γ).bind fun ds γ => match ds with
  | [.int j] => if -1000000 ≤ j ∧ j ≤ 1000000 then .ok (rangeD 0 j.toNat) γ else .stuck
  | _ => .stuck
def lRng2 (fs : LSem) : LSem := fun ρ γ => (fs ρ γ).bind fun ds γ => match ds with
  | [.int i, .int j] => if (-1000000 ≤ i ∧ i ≤ 1000000) ∧ -1000000 ≤ j ∧ j ≤ 1000000 then .ok (rangeD i (j - i).toNat) γ else .stuck
  | _ => .stuck
theorem di_range1 {a : Expr} (gl : Gl X "range") (hm : X.mg "range" = none) (ha : PA X [a] (tPs B W fs)) (hs : starEach [a] X.env = [(false, eval a X.env)] := by rfl) : PI X tg (.Call (.Name "range" p) [a] [] pos) (tG B W (rSrc B) (lRng1 fs)) := PI.imp (pi_range1 gl hm ha hs) fun σ H Q ⟨F, φ, ρ, γ, R, P⟩ => by
  refine run1 R P fun ds γ1 vs F1 φ1 H1 x1 R1 d1 P1 => ?_
  have key : (∃ j, ds = [.int j]) ∨ (∀ j, ds ≠ [.int j]) := by
    by_cases h : ∃ j, ds = [.int j]
    · exact .inl h
    · exact .inr fun j z => h ⟨j, z⟩
  rcases key with ⟨j, rfl⟩ | key
  · simp only at P1
    by_cases hj : -1000000 ≤ j ∧ j ≤ 1000000
    · rw [if_pos hj] at P1
      obtain ⟨v, rfl, h⟩ := Pks.one d1
      have := Pk.int R1 h
      subst this
      exact ⟨j, rfl, by omega, by omega, P1 _ F1 φ1 H1 (Ext.refl _ _ _) R1 src_range⟩
    · rw [if_neg hj] at P1; exact P1.elim
  · split at P1
    · exact absurd rfl (key _)
    · exact P1.elim
theorem di_range2 {a b : Expr} (gl : Gl X "range") (hm : X.mg "range" = none) (ha : PA X [a, b] (tPs B W fs)) (hs : starEach [a, b] X.env = [(false, eval a X.env), (false, eval b X.env)] := by rfl) (hs2 : starEach [b] X.env = [(false, eval b X.env)] := by rfl) : PI X tg (.Call (.Name "range" p) [a, b] [] pos) (tG B W (rSrc B) (lRng2 fs)) := PI.imp (pi_range2 gl hm ha hs hs2) fun σ H Q ⟨F, φ, ρ, γ, R, P⟩ => by
  refine run1 R P fun ds γ1 vs F1 φ1 H1 x1 R1 d1 P1 => ?_
  have key : (∃ i j, ds = [.int i, .int j]) ∨ (∀ i j, ds ≠ [.int i, .int j]) := by
    by_cases h : ∃ i j, ds = [.int i, .int j]
    · exact .inl h
    · exact .inr fun i j z => h ⟨i, j, z⟩
  rcases key with ⟨i, j, rfl⟩ | key
  · simp only at P1
    by_cases hj : (-1000000 ≤ i ∧ i ≤ 1000000) ∧ -1000000 ≤ j ∧ j ≤ 1000000
    · rw [if_pos hj] at P1
      obtain ⟨v, w, rfl, h, h'⟩ := Pks.two d1
      have := Pk.int R1 h
      subst this
      have := Pk.int R1 h'
      subst this
      exact ⟨i, j, rfl, by omega, P1 _ F1 φ1 H1 (Ext.refl _ _ _) R1 src_range⟩
    · rw [if_neg hj] at P1; exact P1.elim
  · split at P1
    · exact absurd rfl (key _ _)
    · exact P1.elim

/-! ### targets -/
abbrev Tgt := D → Env → Option Env
def GT (B : Fx) (g : TG) (tg : Tgt) (ws : List Nat) : Prop := ∀ (F : Hp) (φ : List Addr) (H : Hp) (ρ : Env) (γ : List D) (σ : St) (d : D) (v : V) (ρ' : Env) (Q : St → Hp → Prop), Rel B F φ H ρ γ σ → Den B.C φ F d v → tg d ρ = some ρ' → (∀ σ', Rel B F φ H ρ' γ σ' → wipe σ' ws = wipe σ ws → Q σ' H) → g v σ H Q
def gtN (i : Nat) : Tgt := fun d ρ => some (ρ.set i (some d))
theorem wipe_set (σ : St) (i : Nat) (x : Option V) : ∀ {ws : List Nat}, i ∈ ws → wipe (σ.set i x) ws = wipe σ ws
  | w :: ws, h => by
    rw [wipe, wipe]
    by_cases hw : i ∈ ws
    · rw [wipe_set σ i x hw]
    · have e : i = w := by rcases List.mem_cons.mp h with z | z; exact z; exact absurd z hw
      subst e
      have key : ∀ {us : List Nat}, i ∉ us → wipe (σ.set i x) us = (wipe σ us).set i x := by
        intro us
        induction us with
        | nil => intro _; rfl
        | cons u us ih =>
          intro hu
          rw [List.mem_cons, not_or] at hu
          rw [wipe, wipe, ih hu.2, List.set_comm _ _ hu.1]
      rw [key hw, List.set_set]
theorem gt_name {i : Nat} {ws : List Nat} (hi : i ∈ ws ∨ ws = []) : GT B (gName i) (gtN i) (if ws = [] then [i] else ws) := by
  intro F φ H ρ γ σ d v ρ' Q R h e k
  cases e
  refine k _ (R.set h i) ?_
  rcases hi with hi | hi
  · rw [if_neg (by intro z; rw [z] at hi; cases hi)]; exact wipe_set σ i _ hi
  · rw [if_pos hi]; exact wipe_set σ i _ (by simp)
theorem gt_n {i : Nat} : GT B (gName i) (gtN i) [i] := by
  intro F φ H ρ γ σ d v ρ' Q R h e k
  cases e
  exact k _ (R.set h i) (wipe_set σ i _ (by simp))
def gtT2 (i j : Nat) : Tgt := fun d ρ => match d with
  | .tup [a, b] => some ((ρ.set i (some a)).set j (some b))
  | _ => none
theorem gt_t2 (hK : X.K = B.C.K) {i j : Nat} : GT B (gTup X.K 2 (gCons (gName i) (gCons (gName j) gNil))) (gtT2 i j) [i, j] := by
  intro F φ H ρ γ σ d v ρ' Q R h e k
  unfold gtT2 at e
  split at e
  · rename_i a b
    cases e
    rw [Den] at h
    obtain ⟨l, vs, rfl, h1, h2⟩ := h
    rw [Dens] at h2
    obtain ⟨v1, r, rfl, h3, h4⟩ := h2
    rw [Dens] at h4
    obtain ⟨v2, r, rfl, h5, h6⟩ := h4
    rw [Dens] at h6
    subst h6
    rw [hK]
    refine ⟨l, _, rfl, sqT_same R.c.sub h1, rfl, v1, [v2], rfl, v2, [], rfl, rfl, ?_⟩
    refine k _ ((R.set h3 i).set h5 j) ?_
    show wipe ((σ.set i (some v1)).set j (some v2)) [i, j] = wipe σ [i, j]
    rw [wipe_set _ j _ (by simp), wipe_set _ i _ (by simp)]
  · cases e

/-! ### for -/
def loopS (tg : Tgt) (body : SSem) : List D → SSem
  | [] => fun ρ γ => .nx ρ γ
  | d :: ds => fun ρ γ => match tg d ρ with
    | none => .stuck
    | some ρ1 => (match body ρ1 γ with
      | .nx ρ2 γ2 => loopS tg body ds ρ2 γ2
      | .ct ρ2 γ2 => loopS tg body ds ρ2 γ2
      | .bk ρ2 γ2 => .nx ρ2 γ2
      | o => o)
def sFor (fi : LSem) (tg : Tgt) (body : SSem) : SSem := fun ρ γ => toOut (fi ρ γ) ρ fun ds γ => loopS tg body ds ρ γ
theorem Rel.layT {F H : Hp} {φ : List Addr} {ρ : Env} {γ : List D} {σ : St} {T : Addr} {vs : List V} {es : List D} (R : Rel B F φ H ρ γ σ) (hT : H T = none) (hd : Dens B.C φ F es vs) : Rel B (upd F T (.tup vs)) φ (upd H T (.tup vs)) ρ γ σ ∧ Den B.C φ (upd F T (.tup vs)) (.tup es) (.ref T) := by
  refine ⟨R.lay hT, ?_⟩
  rw [Den]
  exact ⟨T, vs, rfl, .inl (.inl upd_same), Dens.same (same_upd (R.fnone hT)) (List.prefix_refl _) _ _ hd⟩
theorem ds_for {tge iter : Expr} {body : List Stmt} {fi : LSem} {g : TG} {tg : Tgt} {ws : List Nat} {fb : SSem} (hp : PassesOwn (model X.prog X.w) X.A X.env X.xe) (hc : X.calm = true) (hi : PI X tge iter (tG B W (rSrc B) fi)) (hg : PG X tge g) (gt : GT B g tg ws) (hb : PSs X body (tS B W fb))
    (hs : ∀ x, foldedSetIterable iter X.env x = pure x := by intro _; rfl) : PS X (.For tge iter body [] pos) (tS B W (sFor fi tg fb)) := PS.imp (ps_for hp hc hi hg hb hs) fun E σ H ⟨F, φ, ρ, γ, R, P⟩ => by
  refine run1S R P fun ds γ1 J F1 φ1 H1 x1 R1 src P1 => ?_
  have src : SrcOk B.C φ1 F1 ds J := src
  refine ⟨fun i m σ H => m = ds.length - i ∧ i ≤ ds.length ∧ ∃ F' φ' ρ' γ', Same F1 F' ∧ φ1 <+: φ' ∧ Rel B F' φ' H ρ' γ' σ ∧ SPost B W F' φ' (loopS tg fb (ds.drop i) ρ' γ') E, ⟨ds.length, by omega, Nat.zero_le _, F1, φ1, ρ, γ1, same_refl _, List.prefix_refl _, R1, P1⟩, ?_⟩
  rintro i m σ2 H2 ⟨rfl, hil, F', φ', ρ', γ', s, pp, R2, P2⟩
  have sH : Same F1 H2 := same_trans s R2.c.sub
  by_cases hlt : i < ds.length
  · refine .inr ⟨src.go i H2 hlt sH, fun σ' H' => ∃ F'' φ'' ρ'' γ'', Same F1 F'' ∧ φ1 <+: φ'' ∧ Rel B F'' φ'' H' ρ'' γ'' σ' ∧ SPost B W F'' φ'' (loopS tg fb (ds.drop (i + 1)) ρ'' γ'') E, fun σ' H' hN => ⟨ds.length - (i + 1), by omega, rfl, hlt, hN⟩, fun x H' hy => ?_⟩
    have ed : ds[i]? = some ds[i] := by simp [hlt]
    have edrop : ds.drop i = ds[i] :: ds.drop (i + 1) := (List.getElem_cons_drop hlt).symm
    rw [edrop] at P2
    have fin : ∀ {F3 H3 : Hp}, Same F' F3 → Rel B F3 φ' H3 ρ' γ' σ2 → Den B.C φ' F3 ds[i] x → g x σ2 H3 fun σ2 H2 => tS B W fb { E with nx := fun σ' H' => ∃ F'' φ'' ρ'' γ'', Same F1 F'' ∧ φ1 <+: φ'' ∧ Rel B F'' φ'' H' ρ'' γ'' σ' ∧ SPost B W F'' φ'' (loopS tg fb (ds.drop (i + 1)) ρ'' γ'') E, ct := fun σ' H' => ∃ F'' φ'' ρ'' γ'', Same F1 F'' ∧ φ1 <+: φ'' ∧ Rel B F'' φ'' H' ρ'' γ'' σ' ∧ SPost B W F'' φ'' (loopS tg fb (ds.drop (i + 1)) ρ'' γ'') E, bk := E.nx } σ2 H2 := fun {F3 H3} s3 R3 hd => by
      have P3 := SPost.up s3 (List.prefix_refl _) P2
      dsimp only [loopS] at P3
      cases e : tg ds[i] ρ' with
      | none => rw [e] at P3; exact P3.elim
      | some ρ1 =>
        rw [e] at P3
        refine gt F3 φ' H3 ρ' γ' σ2 ds[i] x ρ1 _ R3 hd e fun σ4 R4 _ => ⟨F3, φ', ρ1, γ', R4, ?_⟩
        have s13 := same_trans s s3
        simp only at P3
        cases e2 : fb ρ1 γ' with
        | nx ρ2 γ2 => rw [e2] at P3; exact fun σ' F4 φ4 H4 s4 p4 R5 => ⟨F4, φ4, ρ2, γ2, same_trans s13 s4, pp.trans p4, R5, SPost.up s4 p4 P3⟩
        | ct ρ2 γ2 => rw [e2] at P3; exact fun σ' F4 φ4 H4 s4 p4 R5 => ⟨F4, φ4, ρ2, γ2, same_trans s13 s4, pp.trans p4, R5, SPost.up s4 p4 P3⟩
        | bk ρ2 γ2 => rw [e2] at P3; exact P3
        | rt d γ2 => rw [e2] at P3; exact P3
        | err c ρ2 γ2 => rw [e2] at P3; exact P3
        | stuck => rw [e2] at P3; exact P3.elim
    rcases src.yld i H2 x H' ds[i] ed sH hy with ⟨rfl, hd⟩ | ⟨T, vs, es, e, hd, rfl, hT, rfl⟩
    · exact fin (same_refl _) R2 (Den.same s pp _ _ hd)
    · obtain ⟨R3, h3⟩ := R2.layT hT (Dens.same s pp _ _ hd)
      rw [← e] at h3
      exact fin (same_upd (R2.fnone hT)) R3 h3
  · have ei : i = ds.length := by omega
    subst ei
    refine .inl ⟨src.stop _ H2 (Nat.le_refl _) sH, ?_⟩
    rw [List.drop_length] at P2
    exact P2 σ2 F' φ' H2 (same_refl _) (List.prefix_refl _) R2
/-! ### while -/
def sWhile (c : CSem) (body : SSem) : Nat → SSem
  | 0 => fun _ _ => .stuck
  | n + 1 => fun ρ γ => toOut (c ρ γ) ρ fun k γ => if k = true then (match body ρ γ with
    | .nx ρ γ => sWhile c body n ρ γ
    | .ct ρ γ => sWhile c body n ρ γ
    | .bk ρ γ => .nx ρ γ
    | o => o) else .nx ρ γ
theorem ds_while (n : Nat) {c : Expr} {body : List Stmt} {ca : CSem} {fb : SSem} (hp : PassesOwn (model X.prog X.w) X.A X.env X.xe) (hc : PT X c (tT B W ca)) (hb : PSs X body (tS B W fb)) : PS X (.While c body [] pos) (tS B W (sWhile ca fb n)) := PS.imp (ps_while hp hc hb) fun E σ H ⟨F, φ, ρ, γ, R, P⟩ => by
  refine ⟨fun m σ H => ∃ F' φ' ρ' γ', Rel B F' φ' H ρ' γ' σ ∧ SPost B W F' φ' (sWhile ca fb m ρ' γ') E, ⟨n, F, φ, ρ, γ, R, P⟩, ?_⟩
  rintro m σ2 H2 ⟨F', φ', ρ', γ', R2, P2⟩
  cases m with
  | zero => exact P2.elim
  | succ m =>
    dsimp only [sWhile] at P2
    refine run1S R2 P2 fun k γ1 k' F1 φ1 H1 x1 R1 d1 P1 => ?_
    cases (show k = k' from d1)
    cases k with
    | false => exact P1 σ2 F1 φ1 H1 (same_refl _) (List.prefix_refl _) R1
    | true =>
      simp only [if_true] at P1 ⊢
      refine ⟨fun σ' H' => ∃ F'' φ'' ρ'' γ'', Rel B F'' φ'' H' ρ'' γ'' σ' ∧ SPost B W F'' φ'' (sWhile ca fb m ρ'' γ'') E, fun σ' H' hN => ⟨m, Nat.lt_succ_self m, hN⟩, F1, φ1, ρ', γ1, R1, ?_⟩
      cases e2 : fb ρ' γ1 with
      | nx ρ2 γ2 => rw [e2] at P1; exact fun σ' F4 φ4 H4 s4 p4 R5 => ⟨F4, φ4, ρ2, γ2, R5, SPost.up s4 p4 P1⟩
      | ct ρ2 γ2 => rw [e2] at P1; exact fun σ' F4 φ4 H4 s4 p4 R5 => ⟨F4, φ4, ρ2, γ2, R5, SPost.up s4 p4 P1⟩
      | bk ρ2 γ2 => rw [e2] at P1; exact P1
      | rt d γ2 => rw [e2] at P1; exact P1
      | err c ρ2 γ2 => rw [e2] at P1; exact P1
      | stuck => rw [e2] at P1; exact P1.elim
end
end DL

/-! DL8: comprehensions, defs -/
namespace DL
open PySem PySem.Spec PyProof.Rows L2
def W0 : WX := fun _ _ _ _ => False
def wipeE (ρ : Env) : List Nat → Env
  | [] => ρ
  | v :: vs => (wipeE ρ vs).set v none
def lcS (tg : Tgt) (c : CSem) (f : ESem) (ρ : Env) : List D → List D → List D → Res (List D)
  | [], acc, γ => .ok acc γ
  | d :: ds, acc, γ => match tg d ρ with
    | none => .stuck
    | some ρ2 => (match c ρ2 γ with
      | .ok true γ1 => (match f ρ2 γ1 with
        | .ok y γ2 => if acc.length < 1000000 then lcS tg c f ρ ds (acc ++ [y]) γ2 else .stuck
        | _ => .stuck)
      | .ok false γ1 => lcS tg c f ρ ds acc γ1
      | _ => .stuck)
def cYesS : CSem := fun _ γ => .ok true γ
def eLc (fi : LSem) (ws : List Nat) (tg : Tgt) (c : CSem) (f : ESem) : ESem := fun ρ γ => (fi ρ γ).bind fun ds γ => (lcS tg c f (wipeE ρ ws) ds [] γ).bind fun ys γ => .ok (.lst ys) γ
section
variable {X : Cx} {B : Fx} {W : WX}
theorem Rel.wipe {F H : Hp} {φ : List Addr} {ρ : Env} {γ : List D} {σ : St} (R : Rel B F φ H ρ γ σ) : ∀ ws : List Nat, Rel B F φ H (wipeE ρ ws) γ (L2.wipe σ ws)
  | [] => R
  | w :: ws => (Rel.wipe R ws).forget2 w
/-- an object of one's own, held by no slot, is changed -/
theorem Rel.updAlone {F H : Hp} {φ : List Addr} {ρ : Env} {γ : List D} {σ : St} {a : Addr} {o u : HO} (R : Rel B F φ H ρ γ σ) (al : Alone B F φ a) (nj : ∀ (j : Nat) (d' : D), ρ[j]? = some (some (.mine d')) → σ[j]? ≠ some (some (.ref a))) (hu : H a = some u) (hnt : NT u) : Rel B F φ (upd H a o) ρ γ σ := by
  have nF : ∀ b u, F b = some u → b ≠ a := fun b u e z => by rw [z, al.f] at e; cases e
  refine ⟨⟨fun b u eb => by rw [upd_ne (nF b u eb)]; exact R.c.sub b u eb, R.c.len, R.c.nd, R.c.cF, fun n d1 b e1 e2 => ?_, R.c.tab.upd hu hnt⟩, ⟨R.e.f, R.e.p, fun b u eb nb ntb => ?_, R.e.nF, R.e.nφ, fun b u eb => ?_⟩, R.len, fun j d1 ej => ?_, R.dj⟩
  · refine (R.c.cell n d1 b e1 e2).same (same_refl F) (List.prefix_refl _) fun u eu => ?_
    have : b ≠ a := fun z => al.p (z ▸ List.mem_of_getElem? e2)
    rw [upd_ne this]; exact eu
  · have : b ≠ a := fun z => by rw [z, al.h] at eb; cases eb
    rw [upd_ne this]; exact R.e.k b u eb nb ntb
  · obtain ⟨u', hu⟩ := R.e.t b u eb
    by_cases hb : b = a
    · rw [hb, upd_same]; exact ⟨_, rfl⟩
    · rw [upd_ne hb]; exact ⟨u', hu⟩
  · rcases R.fz j d1 ej with z | ⟨d2, b, rfl, h5, al5, ow5⟩
    · exact .inl z
    · have hb : b ≠ a := fun z => by subst z; exact nj j d2 ej h5
      exact .inr ⟨d2, b, rfl, h5, al5, ow5.same (same_refl F) (List.prefix_refl _) fun u eu => by rw [upd_ne hb]; exact eu⟩
theorem ext_upd {F H F' H' : Hp} {φ φ' : List Addr} {a : Addr} {o : HO} (x : Ext F φ H F' φ' H') (hn : H a = none) : Ext F φ H F' φ' (upd H' a o) := by
  refine ⟨x.f, x.p, fun b u e nb ntb => ?_, x.nF, x.nφ, fun b u e => ?_⟩
  · rw [upd_ne (ne_of_none e hn)]; exact x.k b u e nb ntb
  · obtain ⟨u', hu⟩ := x.t b u e
    rw [upd_ne (ne_of_none e hn)]; exact ⟨u', hu⟩
theorem wipe_idem (σ : St) : ∀ ws : List Nat, L2.wipe (L2.wipe σ ws) ws = L2.wipe σ ws := by
  intro ws
  have key : ∀ us : List Nat, (∀ u ∈ us, u ∈ ws) → L2.wipe (L2.wipe σ us) ws = L2.wipe σ ws := by
    intro us
    induction us with
    | nil => intro _; rfl
    | cons u us ih =>
      intro h
      show L2.wipe ((L2.wipe σ us).set u none) ws = _
      rw [wipe_set _ u _ (h u (by simp)), ih fun v hv => h v (by simp [hv])]
  exact key ws fun _ h => h
/-- what stands of the comprehension's list -/
structure LcAt (B : Fx) (F1 : Hp) (φ1 : List Addr) (H1 : Hp) (ρ : Env) (σ : St) (L : Addr) (acc : List D) (γ' : List D) (F' : Hp) (φ' : List Addr) (H : Hp) : Prop where
  x : Ext F1 φ1 H1 F' φ' H
  R : Rel B F' φ' H ρ γ' σ
  al : Alone B F' φ' L
  nj : ∀ (j : Nat) (d' : D), ρ[j]? = some (some (.mine d')) → σ[j]? ≠ some (some (.ref L))
  n0 : H1 L = none
  at_ : ∃ vacc, H L = some (.lst vacc) ∧ Dens B.C φ' F' acc vacc
theorem lc_read {fi : LSem} {g : TG} {tg : Tgt} {ws : List Nat} {c : CSem} {f : ESem} (gt : GT B g tg ws) {σ : St} {H : Hp} {Q : VK} (h : tF B W (eLc fi ws tg c f) σ H Q) : tLc (tG B W (rSrc B) fi) g (tT B W0 c) (tE B W0 f) ws σ H Q := by
  obtain ⟨F, φ, ρ, γ, R, P⟩ := h
  refine run1 R P fun ds γ1 J F1 φ1 H1 x1 R1 src P1 => ?_
  have src : SrcOk B.C φ1 F1 ds J := src
  intro L hL
  obtain ⟨ys, γf, ey⟩ : ∃ ys γf, lcS tg c f (wipeE ρ ws) ds [] γ1 = .ok ys γf := by
    have ne : ∀ (ds acc γ : List D) (k : Nat) (γ' : List D), lcS tg c f (wipeE ρ ws) ds acc γ ≠ .err k γ' := by
      intro ds
      induction ds with
      | nil => intro acc γ k γ' z; cases z
      | cons d ds ih =>
        intro acc γ k γ' z
        rw [lcS] at z
        split at z
        · cases z
        · split at z
          · split at z
            · split at z
              · exact ih _ _ _ _ z
              · cases z
            · cases z
          · exact ih _ _ _ _ z
          · cases z
    cases e : lcS tg c f (wipeE ρ ws) ds [] γ1 with
    | ok ys γf => exact ⟨ys, γf, rfl⟩
    | err k γ' => exact absurd e (ne _ _ _ _ _)
    | stuck => rw [e] at P1; exact P1.elim
  rw [ey] at P1
  have P1 : ∀ b F' φ' H', Ext F1 φ1 H1 F' φ' H' → Rel B F' φ' H' ρ γf σ → rFr B ρ σ H1 φ' F' H' (.lst ys) b → Q b H' := P1
  refine ⟨fun i m H => m = ds.length - i ∧ i ≤ ds.length ∧ ∃ F' φ' γ' acc, LcAt B F1 φ1 H1 ρ σ L acc γ' F' φ' H ∧ lcS tg c f (wipeE ρ ws) (ds.drop i) acc γ' = .ok ys γf, ⟨ds.length, by omega, Nat.zero_le _, ?_⟩, ?_⟩
  · obtain ⟨x2, R2, al, nj⟩ := R1.layH (o := .lst []) hL
    exact ⟨F1, φ1, γ1, [], ⟨x2, R2, al, nj, hL, [], upd_same, .nil⟩, ey⟩
  · rintro i m H2 ⟨rfl, hil, F', φ', γ', acc, A, el⟩
    have sH : Same F1 H2 := same_trans A.x.f A.R.c.sub
    by_cases hlt : i < ds.length
    · refine .inr ⟨src.go i H2 hlt sH, fun H' => ∃ F' φ' γ' acc, LcAt B F1 φ1 H1 ρ σ L acc γ' F' φ' H' ∧ lcS tg c f (wipeE ρ ws) (ds.drop (i + 1)) acc γ' = .ok ys γf, fun H' hN => ⟨ds.length - (i + 1), by omega, rfl, hlt, hN⟩, fun x H' hy => ?_⟩
      have ed : ds[i]? = some ds[i] := by simp [hlt]
      rw [(List.getElem_cons_drop hlt).symm, lcS] at el
      -- behind the yield
      have fin : ∀ {F3 H3 : Hp}, LcAt B F1 φ1 H1 ρ σ L acc γ' F3 φ' H3 → Den B.C φ' F3 ds[i] x → g x (L2.wipe σ ws) H3 fun σ2 H2 => L2.wipe σ2 ws = L2.wipe σ ws ∧ tT B W0 c σ2 H2 fun b H3 => if b = true then tE B W0 f σ2 H3 fun y H4 => ∃ acc, H4 L = some (.lst acc) ∧ acc.length < sizeLine ∧ (∃ F' φ' γ' acc', LcAt B F1 φ1 H1 ρ σ L acc' γ' F' φ' (upd H4 L (.lst (acc ++ [y]))) ∧ lcS tg c f (wipeE ρ ws) (ds.drop (i + 1)) acc' γ' = .ok ys γf) else ∃ F' φ' γ' acc, LcAt B F1 φ1 H1 ρ σ L acc γ' F' φ' H3 ∧ lcS tg c f (wipeE ρ ws) (ds.drop (i + 1)) acc γ' = .ok ys γf := fun {F3 H3} A3 hd => by
        cases e : tg ds[i] (wipeE ρ ws) with
        | none => rw [e] at el; cases el
        | some ρ2 =>
          rw [e] at el
          simp only at el
          refine gt F3 φ' H3 (wipeE ρ ws) γ' (L2.wipe σ ws) ds[i] x ρ2 _ (A3.R.wipe ws) hd e fun σ4 R4 hw => ⟨hw.trans (wipe_idem σ ws), F3, φ', ρ2, γ', R4, ?_⟩
          cases ec : c ρ2 γ' with
          | err k γ2 => rw [ec] at el; cases el
          | stuck => rw [ec] at el; cases el
          | ok k γ2 =>
            rw [ec] at el
            intro b F4 φ4 H4 x4 R5 eb
            cases (show k = b from eb)
            obtain ⟨vacc, hv1, hv2⟩ := A3.at_
            have A4 : LcAt B F1 φ1 H1 ρ σ L acc γ2 F4 φ4 H4 := ⟨A3.x.trans x4, A3.R.step x4 R5.c, A3.al.step x4 ⟨_, hv1⟩, A3.nj, A3.n0, vacc, x4.k L _ hv1 A3.al.p nt_lst, Dens.same x4.f x4.p _ _ hv2⟩
            cases k with
            | false =>
              rw [if_neg Bool.false_ne_true]
              exact ⟨F4, φ4, γ2, acc, A4, el⟩
            | true =>
              rw [if_pos rfl]
              refine ⟨F4, φ4, ρ2, γ2, R5, ?_⟩
              simp only at el
              cases ef : f ρ2 γ2 with
              | err k γ3 => rw [ef] at el; cases el
              | stuck => rw [ef] at el; cases el
              | ok y γ3 =>
                rw [ef] at el
                simp only at el
                by_cases hz : acc.length < 1000000
                · rw [if_pos hz] at el
                  intro v F5 φ5 H5 x5 R6 hy
                  obtain ⟨vacc4, hw1, hw2⟩ := A4.at_
                  have A5x := A4.x.trans x5
                  have A5R := A4.R.step x5 R6.c
                  have A5al := A4.al.step x5 ⟨_, hw1⟩
                  have h5 : H5 L = some (.lst vacc4) := x5.k L _ hw1 A4.al.p nt_lst
                  have d5 := Dens.same x5.f x5.p _ _ hw2
                  refine ⟨vacc4, h5, by rw [← hw2.len]; exact Nat.lt_of_lt_of_le hz SZ, F5, φ5, γ3, acc ++ [y], ⟨ext_upd A5x A4.n0, A5R.updAlone A5al A4.nj h5 nt_lst, A5al, A4.nj, A4.n0, vacc4 ++ [v], upd_same, d5.app (.one hy)⟩, el⟩
                · rw [if_neg hz] at el; cases el
      rcases src.yld i H2 x H' ds[i] ed sH hy with ⟨rfl, hd⟩ | ⟨T, vs, es, e, hd, rfl, hT, rfl⟩
      · exact fin A (Den.same A.x.f A.x.p _ _ hd)
      · obtain ⟨R3, h3⟩ := A.R.layT hT (Dens.same A.x.f A.x.p _ _ hd)
        obtain ⟨vacc, hv1, hv2⟩ := A.at_
        have hLT : L ≠ T := ne_of_none hv1 hT
        rw [← e] at h3
        have xl := ext_lay (φ := φ') (o := .tup vs) A.R.c.sub hT
        exact fin ⟨A.x.trans xl, R3, A.al.step xl ⟨_, hv1⟩, A.nj, A.n0, vacc, by rw [upd_ne hLT]; exact hv1, Dens.same xl.f xl.p _ _ hv2⟩ h3
    · have ei : i = ds.length := by omega
      subst ei
      rw [List.drop_length, lcS] at el
      cases el
      refine .inl ⟨src.stop _ H2 (Nat.le_refl _) sH, P1 _ F' φ' H2 A.x A.R ⟨L, rfl, A.al, A.at_, A.nj, A.n0⟩⟩
end
end DL

/-! DL9: comprehensions as expressions, defs and their calls, fields, raise, try -/
namespace DL
open PySem PySem.Spec PyProof.Rows L2
section
variable {X : Cx} {B : Fx} {W : WX}
theorem df_lc {elt tge iter : Expr} {ifs : List Expr} {scope : Scope} {own : List (Str × Nat)} {pos : Pos} {fi : LSem} {g : TG} {tg : Tgt} {c : CSem} {f : ESem} (hc : X.calm = true) (hN : X.N.Nodup) (hi : PI X tge iter (tG B W (rSrc B) fi)) (ok : BlkOk X.N X.env.scope scope own)
    (hg : ∀ (s : Shared) (H : Hp) (C : Addr) (cl : List (Str × Addr)) (fp : List Addr), PG (X.blk s H scope (compEnvC scope cl C X.env) fp) tge g) (gt : GT B g tg (own.map (·.2)))
    (ht : ∀ (s : Shared) (H : Hp) (C : Addr) (cl : List (Str × Addr)) (fp : List Addr), PTs (X.blk s H scope (compEnvC scope cl C X.env) fp) ifs (tT B W0 c))
    (he : ∀ (s : Shared) (H : Hp) (C : Addr) (cl : List (Str × Addr)) (fp : List Addr), PE (X.blk s H scope (compEnvC scope cl C X.env) fp) elt (tE B W0 f)) (hs : ∀ x, foldedSetIterable iter X.env x = pure x := by intro _; rfl) :
    PE X (.ListComp elt [⟨tge, iter, ifs, 0⟩] scope pos) (tF B W (eLc fi (own.map (·.2)) tg c f)) := PE.imp (pe_lc hc hN hi ok hg ht he hs) fun σ H Q h => lc_read gt h
theorem ds_setLc {i : Nat} {y : Str} {py : Pos} {elt tge iter : Expr} {ifs : List Expr} {scope : Scope} {own : List (Str × Nat)} {pos spos : Pos} {fi : LSem} {g : TG} {tg : Tgt} {c : CSem} {f : ESem} (hc : X.calm = true) (hN : X.N.Nodup) (hy : X.N[i]? = some y) (hyl : X.env.scope.names.lookup y = some .local)
    (hsw : swapsWith (.ListComp elt [⟨tge, iter, ifs, 0⟩] scope pos) (some (.Name y py)) spos.line X.env = pure true) (hi : PI X tge iter (tG B W (rSrc B) fi)) (ok : BlkOk X.N X.env.scope scope own)
    (hg : ∀ (s : Shared) (H : Hp) (C : Addr) (cl : List (Str × Addr)) (fp : List Addr), PG (X.blk s H scope (compEnvC scope cl C X.env) fp) tge g) (gt : GT B g tg (own.map (·.2)))
    (ht : ∀ (s : Shared) (H : Hp) (C : Addr) (cl : List (Str × Addr)) (fp : List Addr), PTs (X.blk s H scope (compEnvC scope cl C X.env) fp) ifs (tT B W0 c))
    (he : ∀ (s : Shared) (H : Hp) (C : Addr) (cl : List (Str × Addr)) (fp : List Addr), PE (X.blk s H scope (compEnvC scope cl C X.env) fp) elt (tE B W0 f)) (hs : ∀ x, foldedSetIterable iter X.env x = pure x := by intro _; rfl) :
    PS X (.Assign [.Name y py] (.ListComp elt [⟨tge, iter, ifs, 0⟩] scope pos) spos) (tS B W (sSet i (eLc fi (own.map (·.2)) tg c f))) := PS.imp (ps_setLc (i := i) hc hN hy hyl hsw hi ok hg ht he hs) fun E σ H ⟨F, φ, ρ, γ, R, P⟩ => by
  refine lc_read gt (run1S R P fun d γ1 v F1 φ1 H1 x1 R1 d1 P1 => ?_)
  obtain ⟨a, rfl, al, ow, nj, _⟩ := d1
  obtain ⟨o, ho, R2, hd⟩ := R1.freeze al ow nj
  exact P1 _ _ φ1 H1 (same_upd al.f) (List.prefix_refl _) (R2.set hd i)
theorem dts_nil : PTs X [] (tT B W cYesS) := ⟨fun pins s σ H Q I h => by
  obtain ⟨F, φ, ρ, γ, R, P⟩ := h
  exact pts_nil.run pins s σ H Q I (P true F φ H (Ext.refl _ _ _) R rfl)⟩
theorem dts_one {c : Expr} {f : CSem} (h : PT X c (tT B W f)) : PTs X [c] (tT B W f) := pts_one h
end

/-! ### a def's promise by data -/
def spM (C : Ct) (n : Nat) (g : List D → List D → Res D) : Sp := fun vs H Q E => ∃ F φ γ ds, CRel C F φ H γ ∧ Dens C φ F ds vs ∧ ds.length = n ∧ (match g ds γ with
  | .ok d γ' => ∀ v F' φ' H', Ext F φ H F' φ' H' → CRel C F' φ' H' γ' → Den C φ' F' d v → Q v H'
  | .err c γ' => ∀ F' φ' H', Ext F φ H F' φ' H' → CRel C F' φ' H' γ' → E (.ref (C.exc c)) none H'
  | .stuck => False)
def bodyR (o : Out) : Res D := match o with
  | .rt d γ => .ok d γ
  | .nx _ γ => .ok .non γ
  | .err c _ γ => .err c γ
  | _ => .stuck
def startE (n : Nat) (ds : List D) : Env := ds.map some ++ List.replicate (n - ds.length) none
theorem start_rel {C : Ct} {F H : Hp} {φ : List Addr} {γ ds : List D} {vs : List V} {N : List Str} (c : CRel C F φ H γ) (h : Dens C φ F ds vs) : Rel ⟨C, F, φ, H⟩ F φ H (startE N.length ds) γ (start N vs) := by
  have hl := h.len
  have key : ∀ (i : Nat) (d : D), (startE N.length ds)[i]? = some (some d) → ds[i]? = some d ∧ ∃ v, (start N vs)[i]? = some (some v) ∧ Den C φ F d v := fun i d e => by
    unfold startE at e
    by_cases hi : i < ds.length
    · rw [List.getElem?_append_left (by simpa using hi), List.getElem?_map] at e
      cases q : ds[i]? with
      | none => rw [q] at e; cases e
      | some d' =>
        rw [q] at e
        cases e
        obtain ⟨v, h1, h2⟩ := h.at q
        refine ⟨rfl, v, ?_, h2⟩
        unfold L2.start
        rw [List.getElem?_append_left (by simpa [← hl] using hi), List.getElem?_map, h1]
        rfl
    · rw [List.getElem?_append_right (by simpa using hi)] at e
      obtain ⟨_, e2⟩ := List.getElem?_eq_some_iff.mp e
      rw [List.getElem_replicate] at e2
      cases e2
  refine ⟨c, Ext.refl _ _ _, ?_, fun i d e => .inl (key i d e).2, fun i j d e a _ h1 => ?_⟩
  · unfold startE L2.start
    simp [hl]
  · obtain ⟨_, v, _, hd⟩ := key i _ h1
    rw [Den] at hd
    exact hd.elim
section
variable {C : Ct} {mg : Str → Option Value} {base : Heap} {x qual : Str} {params : Arguments} {body : List Stmt} {scope : Scope} {f : Addr} {fd : FuncData} {N ps : List Str} {k : Nat}
/-- a def by its body's data reading -/
theorem fn_dl (Fd : FunD C.K x qual params body scope [] [] f fd) (S : FnScope N ps scope) {g : List D → List D → Res D} {fb : SSem}
    (hb : ∀ (B : Fx) (cdv : Value) (A : Around) (outer : List PySem.Env) (s : Shared) (H : Hp) (E : XK), B.C = C → Room k (A.deeper (envOfC qual scope s.heap.objs.size f cdv)) →
      L2N.Takes (cxOf (L2N.CX C.P C.w) C.P C.w C.K mg base N qual scope f cdv A outer s H E) (fun cls d _ H => E cls d H) → PassesOwn (model C.P C.w) (A.deeper (envOfC qual scope s.heap.objs.size f cdv)) (envOfC qual scope s.heap.objs.size f cdv) (cxOf (L2N.CX C.P C.w) C.P C.w C.K mg base N qual scope f cdv A outer s H E).xe →
      PSs (cxOf (L2N.CX C.P C.w) C.P C.w C.K mg base N qual scope f cdv A outer s H E) body (tS B (fun cls d _ H => E cls d H) fb))
    (hg : ∀ ds γ, ds.length = ps.length → g ds γ ≠ .stuck → bodyR (fb (startE N.length ds) γ) = g ds γ) : FnOk C.P C.w C.K mg base (L2N.CX C.P C.w) (k + 1) f fd ps (spM C ps.length g) := by
  refine Fd.ok S (fun vs H Q E h => ?_) (fun cdv A outer s H vs Q E hr h => ?_)
  · obtain ⟨F, φ, γ, ds, _, h1, h2, _⟩ := h
    rw [← h1.len, h2]
  · obtain ⟨F, φ, γ, ds, c, h1, h2, h3⟩ := h
    refine ⟨_, hb ⟨C, F, φ, H⟩ cdv A outer s H E rfl hr (L2N.takes_of rfl rfl rfl rfl) (passes_of (X := cxOf (L2N.CX C.P C.w) C.P C.w C.K mg base N qual scope f cdv A outer s H E) rfl), F, φ, startE N.length ds, γ, start_rel c h1, ?_⟩
    have ne : g ds γ ≠ .stuck := fun z => by rw [z] at h3; exact h3
    rw [← hg ds γ h2 ne] at h3
    cases e : fb (startE N.length ds) γ with
    | nx ρ' γ' => rw [e] at h3; exact fun σ' F' φ' H' _ _ R => h3 .non F' φ' H' R.e R.c (by rw [Den])
    | rt d γ' => rw [e] at h3; exact fun v ρ' σ' F' φ' H' _ _ R hd => h3 v F' φ' H' R.e R.c hd
    | bk ρ' γ' => rw [e] at h3; exact h3.elim
    | ct ρ' γ' => rw [e] at h3; exact h3.elim
    | err c ρ' γ' => rw [e] at h3; exact fun σ' F' φ' H' _ _ R => h3 F' φ' H' R.e R.c
    | stuck => rw [e] at h3; exact h3
end
section
variable {X : Cx} {B : Fx} {W : WX} {k : Nat} {f Cc : Addr} {fd : FuncData} {ps : List Str} {x m : Str} {p pos apos : Pos} {e o : Expr} {es : List Expr} {fs : LSem} {fo : ESem} {n : Nat} {g : List D → List D → Res D} {CX : CXT}
def eFn (n : Nat) (g : List D → List D → Res D) (fs : LSem) : ESem := fun ρ γ => (fs ρ γ).bind fun ds γ => if ds.length = n then g ds γ else .stuck
theorem sp_of {F H : Hp} {φ : List Addr} {ρ : Env} {γ ds : List D} {σ : St} {vs : List V} {Q : VK} (R : Rel B F φ H ρ γ σ) (hd : Dens B.C φ F ds vs) (P : Post B W (rDen B) F φ H ρ σ (if ds.length = n then g ds γ else .stuck) Q) : spM B.C n g vs H Q (WE W σ) := by
  by_cases hn : ds.length = n
  · rw [if_pos hn] at P
    refine ⟨F, φ, γ, ds, R.c, hd, hn, ?_⟩
    cases e : g ds γ with
    | ok d γ' => rw [e] at P; exact fun v F' φ' H' x c hv => P v F' φ' H' x (R.step x c) hv
    | err c γ' => rw [e] at P; exact fun F' φ' H' x c => P F' φ' H' x (R.step x c)
    | stuck => rw [e] at P; exact P
  · rw [if_neg hn] at P; exact P.elim
theorem de_fn (Fn : FnOk X.prog X.w X.K X.mg X.base (L2N.CX X.prog X.w) k f fd ps (spM B.C n g)) (hr : Room k X.A) (hg : Gl X x) (hm : X.mg x = some (.ref f)) (hk : PySem.W.keepIn X.K (.ref f) = true) (hb : Binds X.K fd ps []) (tk : L2N.Takes X W)
    (ha : PA X (e :: es) (tA B W fs)) (hdb : (x == ("__debug__" : Str)) = false := by decide) (he : starEach (e :: es) X.env = (false, eval e X.env) :: starEach es X.env := by rfl) (hpl : (backTo pos (starEach es X.env)).any (·.1) = false := by rfl) :
    PE X (.Call (.Name x p) (e :: es) [] pos) (tE B W (eFn n g fs)) := PE.imp (pe_callS Fn hr hg hm hk hb (fun σ => L2N.passAt tk σ) ha hdb he hpl) fun σ H Q ⟨F, φ, ρ, γ, R, P⟩ => by
  refine run1 R P fun ds γ1 vs F1 φ1 H1 x1 R1 d1 P1 => ?_
  exact sp_of R1 d1 P1
theorem de_fn0 (Fn : FnOk X.prog X.w X.K X.mg X.base (L2N.CX X.prog X.w) k f fd ps (spM B.C n g)) (hr : Room k X.A) (hg : Gl X x) (hm : X.mg x = some (.ref f)) (hk : PySem.W.keepIn X.K (.ref f) = true) (hb : Binds X.K fd ps []) (tk : L2N.Takes X W) (hdb : (x == ("__debug__" : Str)) = false := by decide) :
    PE X (.Call (.Name x p) [] [] pos) (tE B W (eFn n g aNil)) := by
  refine ⟨fun pins s σ H Q I h => ?_⟩
  refine wpAny_Call_Name_kw (ld_glob I hg hm ?_ hdb)
  refine PySem.W.callWith_K0 I.kIn hk (run_fnS (us := []) (vs := []) Fn hr hb (E := WE W) (L2N.passAt tk σ) I .nil ?_)
  obtain ⟨F, φ, ρ, γ, R, P⟩ := h
  exact sp_of R .nil P
/-- o.m(..), what is raised wished for at the slots -/
theorem de_meth {c : Nat} {pl : Sem Bool} (he : PE X o (tE B W fo)) (cl : Cls X.K (B.C.cls c)) (hm : Meth X.K (B.C.cls c) m f) (nf : m ∉ B.C.fld c) (Fn : FnOk X.prog X.w X.K X.mg X.base (L2N.CX X.prog X.w) k f fd ps (spM B.C n g)) (hr : Room k X.A) (hb : Binds X.K fd ps []) (tk : L2N.Takes X W) (ha : PA X (e :: es) (tA B W fs))
    (hst : starEach (e :: es) X.env = (false, eval e X.env) :: starEach es X.env := by rfl) (hpl : (backTo pos (starEach es X.env)).any (·.1) = false := by rfl)
    (ht : eval (.Call (.Attribute o m apos) (e :: es) [] pos) X.env = (do
      let ov ← eval o X.env
      standAt apos.atName
      let (f, first) ← holding [ov] (getMethod ov m pl)
      callWith pos f first (backTo pos (starEach (e :: es) X.env)) (backToKw pos (keywordEach [] X.env))) := by rfl) :
    PE X (.Call (.Attribute o m apos) (e :: es) [] pos) (tE B W (fun ρ γ => (fo ρ γ).bind fun d γ => match d with
      | .ins c' _ => if c' = c then (fs ρ γ).bind fun ds γ => if (d :: ds).length = n then g (d :: ds) γ else .stuck else .stuck
      | _ => .stuck)) := by
  refine ⟨fun pins s σ H Q I h => ?_⟩
  obtain ⟨F, φ, ρ, γ, R, P⟩ := h
  have h2 : tE B W fo σ H fun x H1 => ∃ a dx vs, x = .ref a ∧ H1 a = some (.ins (B.C.cls c) dx ((B.C.fld c).zip vs)) ∧ tA B W fs σ H1 fun us H2 => spM B.C n g (x :: us) H2 Q (WE W σ) := by
    refine run1 R P fun d γ1 v F1 φ1 H1 x1 R1 d1 P1 => ?_
    cases d with
    | ins c' ds0 =>
      simp only at P1
      by_cases hc : c' = c
      · subst hc
        rw [if_pos rfl] at P1
        have d1 : Den B.C φ1 F1 (.ins c' ds0) v := d1
        have d1' := d1
        rw [Den] at d1'
        obtain ⟨a, dx, vs, rfl, h1, _⟩ := d1'
        refine ⟨a, dx, vs, rfl, R1.c.sub _ _ h1, ?_⟩
        refine run1 R1 P1 fun ds γ2 us F2 φ2 H2 x2 R2 d2 P2 => ?_
        exact sp_of R2 (.cons (Den.same x2.f x2.p _ _ d1) d2) P2
      · rw [if_neg hc] at P1; exact P1.elim
    | _ => exact P1.elim
  refine PySem.W.methodCall_KW (pl := pl) (thn (he.run pins s σ H _ I h2) fun u s1 ⟨x, H1, I1, rx, a, dx, fs0, ex, ea, q⟩ => ?_) ht
  subst ex
  obtain rfl : u = Value.ref a := rx
  have l : ((B.C.fld c).zip fs0).lookup m = none := by
    clear ea
    have : ∀ (l1 : List Str) (l2 : List V), m ∉ l1 → (l1.zip l2).lookup m = none := by
      intro l1
      induction l1 with
      | nil => intro l2 _; rfl
      | cons y l1 ih =>
        intro l2 hn
        rw [List.mem_cons, not_or] at hn
        cases l2 with
        | nil => rfl
        | cons z l2 =>
          have hb : (m == y) = false := beq_eq_false_iff_ne.mpr hn.1
          rw [List.zip_cons_cons, List.lookup_cons, hb]
          exact ih l2 hn.2
    exact this _ _ nf
  refine getmeth_ok I1 ea cl hm l ?_
  refine PySem.W.callWith_K (first := [.ref a]) (h₀ := X.base) I.ok.mod.kin hm.kp (thn (ha.run pos pins s1 σ H1 _ I1 q) fun us s2 ⟨vs, H2, I2, r, q2⟩ => ⟨I2.kIn, ?_⟩) hst hpl
  exact run_fnS (us := .ref a :: us) (vs := .ref a :: vs) Fn hr hb (E := WE W) (L2N.passAt tk σ) I2 (.cons rfl r) q2
def eMeth (c n : Nat) (g : List D → List D → Res D) (fo : ESem) (fs : LSem) : ESem := fun ρ γ => (fo ρ γ).bind fun d γ => match d with
  | .ins c' _ => if c' = c then (fs ρ γ).bind fun ds γ => if (d :: ds).length = n then g (d :: ds) γ else .stuck else .stuck
  | _ => .stuck
def eMeth0 (c n : Nat) (g : List D → List D → Res D) (fo : ESem) : ESem := fun ρ γ => (fo ρ γ).bind fun d γ => match d with
  | .ins c' _ => if c' = c then (if [d].length = n then g [d] γ else .stuck) else .stuck
  | _ => .stuck
theorem de_meth0 {c : Nat} {pl : Sem Bool} (he : PE X o (tE B W fo)) (cl : Cls X.K (B.C.cls c)) (hm : Meth X.K (B.C.cls c) m f) (nf : m ∉ B.C.fld c) (Fn : FnOk X.prog X.w X.K X.mg X.base (L2N.CX X.prog X.w) k f fd ps (spM B.C n g)) (hr : Room k X.A) (hb : Binds X.K fd ps []) (tk : L2N.Takes X W)
    (ht : eval (.Call (.Attribute o m apos) [] [] pos) X.env = (do
      let ov ← eval o X.env
      standAt apos.atName
      let (f, first) ← holding [ov] (getMethod ov m pl)
      callWith pos f first (backTo pos (starEach [] X.env)) (backToKw pos (keywordEach [] X.env))) := by rfl) :
    PE X (.Call (.Attribute o m apos) [] [] pos) (tE B W (eMeth0 c n g fo)) := by
  refine ⟨fun pins s σ H Q I h => ?_⟩
  obtain ⟨F, φ, ρ, γ, R, P⟩ := h
  have h2 : tE B W fo σ H fun x H1 => ∃ a dx vs, x = .ref a ∧ H1 a = some (.ins (B.C.cls c) dx ((B.C.fld c).zip vs)) ∧ spM B.C n g [x] H1 Q (WE W σ) := by
    refine run1 R P fun d γ1 v F1 φ1 H1 x1 R1 d1 P1 => ?_
    cases d with
    | ins c' ds0 =>
      simp only at P1
      by_cases hc : c' = c
      · subst hc
        rw [if_pos rfl] at P1
        have d1 : Den B.C φ1 F1 (.ins c' ds0) v := d1
        have d1' := d1
        rw [Den] at d1'
        obtain ⟨a, dx, vs, rfl, h1, _⟩ := d1'
        exact ⟨a, dx, vs, rfl, R1.c.sub _ _ h1, sp_of R1 (.one d1) P1⟩
      · rw [if_neg hc] at P1; exact P1.elim
    | _ => exact P1.elim
  refine PySem.W.methodCall_KW (pl := pl) (thn (he.run pins s σ H _ I h2) fun u s1 ⟨x, H1, I1, rx, a, dx, fs0, ex, ea, q⟩ => ?_) ht
  subst ex
  obtain rfl : u = Value.ref a := rx
  have l : ((B.C.fld c).zip fs0).lookup m = none := by
    clear ea
    have : ∀ (l1 : List Str) (l2 : List V), m ∉ l1 → (l1.zip l2).lookup m = none := by
      intro l1
      induction l1 with
      | nil => intro l2 _; rfl
      | cons y l1 ih =>
        intro l2 hn
        rw [List.mem_cons, not_or] at hn
        cases l2 with
        | nil => rfl
        | cons z l2 =>
          have hb : (m == y) = false := beq_eq_false_iff_ne.mpr hn.1
          rw [List.zip_cons_cons, List.lookup_cons, hb]
          exact ih l2 hn.2
    exact this _ _ nf
  refine getmeth_ok I1 ea cl hm l ?_
  exact PySem.W.callWith_K0 (first := [.ref a]) I1.kIn hm.kp (run_fnS (us := [.ref a]) (vs := [.ref a]) Fn hr hb (E := WE W) (L2N.passAt tk σ) I1 (.cons rfl .nil) q)
/-! ### fields -/
def ixS (f : Str) : List Str → Option Nat
  | [] => none
  | y :: l => if f = y then some 0 else (ixS f l).map (· + 1)
def eFld (c : Nat) (i : Nat) (fo : ESem) : ESem := fun ρ γ => (fo ρ γ).bind fun d γ => match d with
  | .ins c' ds => if c' = c then ofOpt ds[i]? γ else .stuck
  | _ => .stuck
theorem zip_lookup {f : Str} : ∀ {l : List Str} {vs : List V} {i : Nat} {v : V}, ixS f l = some i → vs[i]? = some v → (l.zip vs).lookup f = some v
  | [], vs, i, v, e, _ => by cases e
  | y :: l, [], i, v, e, h => by simp at h
  | y :: l, u :: vs, i, v, e, h => by
    rw [ixS] at e
    by_cases hf : f = y
    · rw [if_pos hf] at e
      cases e
      have hb : (f == y) = true := beq_iff_eq.mpr hf
      rw [List.zip_cons_cons, List.lookup_cons, hb]
      simpa using h
    · rw [if_neg hf] at e
      have hb : (f == y) = false := beq_eq_false_iff_ne.mpr hf
      rw [List.zip_cons_cons, List.lookup_cons, hb]
      cases q : ixS f l with
      | none => rw [q] at e; cases e
      | some j =>
        rw [q] at e
        cases e
        exact zip_lookup q (by simpa using h)
theorem de_fld {c i : Nat} (he : PE X o (tE B W fo)) (cl : Cls X.K (B.C.cls c)) (na : NoAttr X.K (B.C.cls c) m) (hi : ixS m (B.C.fld c) = some i) (hb : attributeBase o m X.env (eval o X.env) = eval o X.env := by rfl) : PE X (.Attribute o m pos) (tE B W (eFld c i fo)) :=
  PE.imp (pe_fld he hb) fun σ H Q ⟨F, φ, ρ, γ, R, P⟩ => by
    refine run1 R P fun d γ1 v F1 φ1 H1 x1 R1 d1 P1 => ?_
    cases d with
    | ins c' ds =>
      simp only at P1
      by_cases hc : c' = c
      · subst hc
        rw [if_pos rfl] at P1
        have d1 : Den B.C φ1 F1 (.ins c' ds) v := d1
        rw [Den] at d1
        obtain ⟨a, dx, vs, rfl, h1, h2, h3⟩ := d1
        cases q : ds[i]? with
        | none => rw [q] at P1; exact P1.elim
        | some d =>
          rw [q] at P1
          obtain ⟨v, h4, h5⟩ := h3.at q
          exact ⟨a, _, dx, _, v, rfl, R1.c.sub _ _ h1, cl, na, zip_lookup hi h4, P1 v F1 φ1 H1 (Ext.refl _ _ _) R1 h5⟩
      · rw [if_neg hc] at P1; exact P1.elim
    | _ => exact P1.elim
/-! ### raise, try -/
def sErr (c : Nat) : SSem := fun ρ γ => .err c ρ γ
theorem ds_raise {c : Nat} (hc : X.calm = true) (tk : L2N.Takes X W) (he : L2N.PMk X e (fun _ H Q => Q (.ref (B.C.exc c)) none H)) : PS X (.Raise (some e) none pos) (tS B W (sErr c)) :=
  PS.imp (L2N.ps_raise hc tk he) fun E σ H ⟨F, φ, ρ, γ, R, P⟩ => P σ F φ H (same_refl _) (List.prefix_refl _) R
def sTry (m : Nat → Bool) (f g : SSem) : SSem := fun ρ γ => match f ρ γ with
  | .err c ρ' γ' => if m c = true then g ρ' γ' else .err c ρ' γ'
  | o => o
theorem ds_try {c : Value} {np pos' : Pos} {b0 : Stmt} {suite body : List Stmt} {fb fg : SSem} {mt : Nat → Bool} (hs : X.stack = X.env :: X.outer) (hf : X.env.frame = some X.env.locals) (hc : Names X x c) (tk : L2N.Takes X W)
    (hm : ∀ k, PySem.W.exmOne X.K (.ref (B.C.exc k)) c = some (mt k))
    (hb : ∀ (W : WX) (pn : List (Addr × Obj)) (xe : Value → Shared → Prop), L2N.Takes (X.tr pn xe) W → PassesOwn (model X.prog X.w) X.A X.env xe → PSs (X.tr pn xe) body (tS B W fb))
    (hsu : ∀ (a : Addr) (oe : Obj) (pn : List (Addr × Obj)), PSs (X.suite a ((a, oe) :: pn)) (b0 :: suite) (tS B W fg)) :
    PS X (.Try body [.ExceptHandler (some (.Name x np)) none (b0 :: suite) pos'] [] [] pos) (tS B W (sTry mt fb fg)) :=
  PS.imp (L2N.ps_try_many (tb := fun W => tS B W fb) (l := [(c, fun _ _ _ => tS B W fg)]) hs hf tk hb (.cons hc (fun a oe _ _ pn _ _ => hsu a oe pn) .nil)) fun E σ H ⟨F, φ, ρ, γ, R, P⟩ => by
    refine ⟨F, φ, ρ, γ, R, ?_⟩
    unfold sTry at P
    cases q : fb ρ γ with
    | nx ρ1 γ1 => rw [q] at P; exact P
    | rt d γ1 => rw [q] at P; exact P
    | bk ρ1 γ1 => rw [q] at P; exact P
    | ct ρ1 γ1 => rw [q] at P; exact P
    | stuck => rw [q] at P; exact P
    | err k ρ1 γ1 =>
      rw [q] at P
      simp only at P
      intro σ' F' φ' H' s p R'
      refine ⟨mt k, hm k, fun hy a _ => ?_, fun hn => ?_⟩
      · rw [if_pos hy] at P
        exact ⟨F', φ', ρ1, γ1, R', SPost.up (o := fg ρ1 γ1) s p P⟩
      · rw [if_neg (by rw [hn]; exact Bool.false_ne_true)] at P
        exact P σ' F' φ' H' s p R'
end
end DL

/-! DLa: dicts whose keys are nested tuples -/
namespace DL
open PySem PySem.Spec PyProof.Rows L2
/-! ### keys -/
def D.key : D → Option NestedKey
  | .non => some .none
  | .int i => some (.num i)
  | .str x => some (.text x)
  | .nk k => some k
  | _ => none
def D.keys : List D → Option (List NestedKey)
  | [] => some []
  | d :: ds => match D.key d, D.keys ds with
    | some k, some ks => some (k :: ks)
    | _, _ => none
def ofKey : NestedKey → D
  | .none => .non
  | .num i => .int i
  | .text x => .str x
  | .tup ks => .nk (.tup ks)
def ofKeys (ks : List NestedKey) : List D := ks.map ofKey
theorem key_den {C : Ct} {φ : List Addr} {F : Hp} : ∀ (d : D) (k : NestedKey) (v : V), D.key d = some k → Den C φ F d v → NDen C.K F k v
  | .non, k, v, e, h => by rw [D.key] at e; cases e; rw [Den] at h; rw [NDen]; exact h
  | .int i, k, v, e, h => by rw [D.key] at e; cases e; rw [Den] at h; rw [NDen]; exact h
  | .str x, k, v, e, h => by rw [D.key] at e; cases e; rw [Den] at h; rw [NDen]; exact h
  | .nk k', k, v, e, h => by rw [D.key] at e; cases e; rw [Den] at h; exact h
  | .tup _, k, v, e, h => by simp [D.key] at e
  | .bl _, k, v, e, h => by simp [D.key] at e
  | .lst _, k, v, e, h => by simp [D.key] at e
  | .dic _, k, v, e, h => by simp [D.key] at e
  | .dik _ _, k, v, e, h => by simp [D.key] at e
  | .ins _ _, k, v, e, h => by simp [D.key] at e
  | .cell _, k, v, e, h => by simp [D.key] at e
  | .raw _, k, v, e, h => by simp [D.key] at e
  | .scr _, k, v, e, h => by simp [D.key] at e
  | .mine _, k, v, e, h => by simp [D.key] at e
theorem keys_den {C : Ct} {φ : List Addr} {F : Hp} : ∀ (ds : List D) (ks : List NestedKey) (vs : List V), D.keys ds = some ks → Dens C φ F ds vs → NDens C.K F ks vs
  | [], ks, vs, e, h => by rw [D.keys] at e; cases e; rw [Dens] at h; rw [NDens]; exact h
  | d :: ds, ks, vs, e, h => by
    rw [D.keys] at e
    cases q : D.key d with
    | none => rw [q] at e; cases e
    | some k =>
      cases q2 : D.keys ds with
      | none => rw [q, q2] at e; cases e
      | some ks' =>
        rw [q, q2] at e
        cases e
        rw [Dens] at h
        obtain ⟨v, r, rfl, h1, h2⟩ := h
        rw [NDens]
        exact ⟨v, r, rfl, key_den d k v q h1, keys_den ds ks' r q2 h2⟩
theorem ofKey_den {C : Ct} {φ : List Addr} {F : Hp} : ∀ (k : NestedKey) (v : V), NDen C.K F k v → Den C φ F (ofKey k) v
  | .none, v, h => by rw [NDen] at h; rw [ofKey, Den]; exact h
  | .num i, v, h => by rw [NDen] at h; rw [ofKey, Den]; exact h
  | .text x, v, h => by rw [NDen] at h; rw [ofKey, Den]; exact h
  | .tup ks, v, h => by rw [ofKey, Den]; exact h
theorem ofKeys_den {C : Ct} {φ : List Addr} {F : Hp} : ∀ (ks : List NestedKey) (vs : List V), NDens C.K F ks vs → Dens C φ F (ofKeys ks) vs
  | [], vs, h => by rw [NDens] at h; rw [ofKeys, List.map_nil, Dens]; exact h
  | k :: ks, vs, h => by
    rw [NDens] at h
    obtain ⟨v, r, rfl, h1, h2⟩ := h
    rw [ofKeys, List.map_cons]
    exact .cons (ofKey_den k v h1) (ofKeys_den ks r h2)
section
variable {X : Cx} {pins : List (Addr × Obj)} {σ : St} {H F : Hp} {s : Shared}
mutual
theorem nden_is (I : Inv X pins σ H s) (sm : Same F H) : ∀ (k : NestedKey) (v : V) (u : Value), NDen X.K F k v → RelV v u → NestedIs s.heap k u
  | .none, v, u, h, r => by rw [NDen] at h; subst h; cases r; exact .none
  | .num i, v, u, h, r => by rw [NDen] at h; subst h; obtain ⟨t, rfl⟩ := r; exact .int i t
  | .text x, v, u, h, r => by rw [NDen] at h; subst h; obtain ⟨t, rfl⟩ := r; exact .text x t
  | .tup ks, v, u, h, r => by
    rw [NDen] at h
    obtain ⟨a, vs, rfl, h1, h2⟩ := h
    cases r
    obtain ⟨its, rv, ⟨o, ho, hc, n, hd⟩, _⟩ := I.tuple (let ⟨o, h1, _⟩ := h1; .inl (.inr ⟨o, sm _ _ h1⟩))
    exact .tup ho hc hd (by simpa using ndens_is I sm ks vs its h2 rv)
theorem ndens_is (I : Inv X pins σ H s) (sm : Same F H) : ∀ (ks : List NestedKey) (vs : List V) (us : List Value), NDens X.K F ks vs → Vals vs us → NestedAll s.heap ks us
  | [], vs, us, h, r => by rw [NDens] at h; subst h; cases r; exact .nil
  | k :: ks, vs, us, h, r => by
    rw [NDens] at h
    obtain ⟨v, vr, rfl, h1, h2⟩ := h
    cases r with
    | cons r1 r2 => exact .cons (nden_is I sm k v _ h1 r1) (ndens_is I sm ks vr _ h2 r2)
end
end
/-! ### entries -/
def dput (kvs : List (NestedKey × V)) (k : NestedKey) (v : V) : List (NestedKey × V) := if (kvs.find? fun p => decide (p.1 = k)).isSome then kvs.map (fun p => if p.1 = k then (p.1, v) else p) else kvs ++ [(k, v)]
def dget (kvs : List (NestedKey × V)) (k : NestedKey) : Option V := (kvs.find? fun p => decide (p.1 = k)).map (·.2)
abbrev PX := Paired fun (p : NestedKey × V) (q : NestedKey × Addr × Value) => p.1 = q.1 ∧ RelV p.2 q.2.2
theorem px_find {k : NestedKey} : ∀ {kvs : List (NestedKey × V)} {xs : List (NestedKey × Addr × Value)}, PX kvs xs → (match kvs.find? (fun p => decide (p.1 = k)) with
    | some p => ∃ q, atKey xs k = some q ∧ RelV p.2 q.2
    | none => atKey xs k = none)
  | _, _, .nil => rfl
  | _, _, .cons (a := p) (b := q) h t => by
    have ih := px_find (k := k) t
    unfold atKey at ih ⊢
    rw [List.find?_cons, List.find?_cons, ← h.1]
    by_cases e : p.1 = k
    · simp only [e, decide_true]
      exact ⟨_, rfl, h.2⟩
    · simp only [e, decide_false]
      exact ih
theorem px_get {kvs : List (NestedKey × V)} {xs : List (NestedKey × Addr × Value)} (h : PX kvs xs) {k : NestedKey} {v : V} (e : dget kvs k = some v) : ∃ q, atKey xs k = some q ∧ RelV v q.2 := by
  have z := px_find (k := k) h
  unfold dget at e
  cases q : kvs.find? (fun p => decide (p.1 = k)) with
  | none => rw [q] at e; cases e
  | some p => rw [q] at e z; cases e; exact z
theorem px_none {kvs : List (NestedKey × V)} {xs : List (NestedKey × Addr × Value)} (h : PX kvs xs) {k : NestedKey} (e : dget kvs k = none) : atKey xs k = none := by
  have z := px_find (k := k) h
  unfold dget at e
  cases q : kvs.find? (fun p => decide (p.1 = k)) with
  | none => rw [q] at z; exact z
  | some p => rw [q] at e; cases e
theorem px_map {k : NestedKey} {v : V} {u : Value} (r : RelV v u) : ∀ {kvs : List (NestedKey × V)} {xs : List (NestedKey × Addr × Value)}, PX kvs xs → PX (kvs.map fun p => if p.1 = k then (p.1, v) else p) (xs.map (putAt k u))
  | _, _, .nil => .nil
  | _, _, .cons (a := p) (b := q) h t => by
    refine .cons ?_ (px_map r t)
    unfold putAt
    dsimp only
    by_cases e : p.1 = k
    · rw [if_pos e, if_pos (by rw [← h.1]; exact e)]
      exact ⟨h.1, r⟩
    · rw [if_neg e, if_neg (by rw [← h.1]; exact e)]
      exact h
theorem px_app {kvs kvs' : List (NestedKey × V)} {xs xs' : List (NestedKey × Addr × Value)} (h : PX kvs xs) (h' : PX kvs' xs') : PX (kvs ++ kvs') (xs ++ xs') := by
  induction h with
  | nil => exact h'
  | cons r _ ih => exact .cons r ih
theorem px_put {kvs : List (NestedKey × V)} {xs : List (NestedKey × Addr × Value)} {k : NestedKey} {v : V} {u : Value} {a : Addr} (h : PX kvs xs) (r : RelV v u) : PX (dput kvs k v) (storedH xs k a u) := by
  have z := px_find (k := k) h
  unfold dput
  cases q : kvs.find? (fun p => decide (p.1 = k)) with
  | none =>
    rw [q] at z
    rw [storedH_new z]
    exact px_app h (.cons ⟨rfl, r⟩ .nil)
  | some p =>
    rw [q] at z
    obtain ⟨w, hw, _⟩ := z
    rw [storedH_old hw]
    exact px_map r h
theorem px_len {kvs : List (NestedKey × V)} {xs : List (NestedKey × Addr × Value)} (h : PX kvs xs) : kvs.length = xs.length := Paired.length h
/-- what was stored -/
theorem stored_mem {xs : List (NestedKey × Addr × Value)} {k : NestedKey} {a : Addr} {u : Value} {x : NestedKey × Addr × Value} (h : x ∈ storedH xs k a u) : (∃ y ∈ xs, y.1 = x.1 ∧ y.2.1 = x.2.1) ∨ (x.1 = k ∧ x.2.1 = a) := by
  unfold storedH at h
  split at h
  · obtain ⟨y, hy, rfl⟩ := List.mem_map.mp h
    refine .inl ⟨y, hy, ?_⟩
    unfold putAt
    split <;> exact ⟨rfl, rfl⟩
  · rcases List.mem_append.mp h with h | h
    · exact .inl ⟨x, h, rfl, rfl⟩
    · have e : x = (k, a, u) := by simpa using h
      subst e
      exact .inr ⟨rfl, rfl⟩
/-! ### a dict in the heap -/
section
variable {X : Cx} {B : Fx} {W : WX} {pins : List (Addr × Obj)} {σ : St} {H F : Hp} {s : Shared} {a : Addr} {o : Obj} {kvs : List (NestedKey × V)}
structure Lk (X : Cx) (B : Fx) : Prop where
  P : X.prog = B.C.P
  w : X.w = B.C.w
  K : X.K = B.C.K
theorem dic_at (L : Lk X B) (I : Inv X pins σ H s) (sm : Same F H) (ha : H a = some (knO a o)) (h : DicO B.C F o kvs) : ∃ xs, s.heap.DictOfH (nestedKind X.prog X.w) a xs ∧ PX kvs xs ∧ ∀ x ∈ xs, NDen B.C.K F x.1 (.ref x.2.1) ∧ x.1.depth ≤ 8 := by
  obtain ⟨xs, h1, ⟨es, ep, h2, h3⟩, h4, h5, h6⟩ := h
  obtain ⟨ho, _, _⟩ := I.hok a _ ha
  rw [← L.P, ← L.w] at h3
  refine ⟨xs, ⟨o, es, ep, ho, h1, h2, h3, fun x hx => ⟨nden_is I sm _ (.ref x.2.1) _ (by rw [L.K]; exact (h5 x hx).1) rfl, (h5 x hx).2⟩, h4⟩, h6, h5⟩
/-- from the heap back -/
theorem dic_of (L : Lk X B) {h' : Heap} {xs : List (NestedKey × Addr × Value)} (hd : h'.DictOfH (nestedKind X.prog X.w) a xs) (px : PX kvs xs) (hk : ∀ x ∈ xs, NDen B.C.K F x.1 (.ref x.2.1) ∧ x.1.depth ≤ 8) : ∃ o, h'.get? a = some o ∧ DicO B.C F o kvs := by
  obtain ⟨o, es, ep, ho, h1, h2, h3, h4, h5⟩ := hd
  rw [L.P, L.w] at h3
  exact ⟨o, ho, xs, h1, ⟨es, ep, h2, h3⟩, h5, hk, px⟩
theorem knO_ok {P : Program} {w : World} {h' : Heap} {H' : Hp} (ho : h'.get? a = some o) : ObjOk P w H' h' a (knO a o) := ⟨ho, ⟨o, ho⟩, fun h1 h2 e k => k o e⟩
theorem Pk.dic {φ : List Addr} {ρ : Env} {γ : List D} {v : V} (R : Rel B F φ H ρ γ σ) (h : Pk B ρ σ φ F (.dic kvs) v) : ∃ a o, v = .ref a ∧ (a == sysModules) = false ∧ H a = some (knO a o) ∧ DicO B.C F o kvs := by
  rcases h with h | ⟨j, e, h⟩
  · rw [Den] at h
    obtain ⟨a, o, rfl, h0, h1, h2⟩ := h
    exact ⟨a, o, rfl, h0, R.c.sub _ _ h1, h2⟩
  · rcases R.fz j _ e with ⟨u, _, q⟩ | ⟨d', a, q, h2, _, ow⟩
    · rw [Den] at q; exact q.elim
    · cases q
      obtain ⟨h0, o, h3, h4⟩ := ow
      rw [h] at h2
      have : v = .ref a := by injection h2 with h2; injection h2
      exact ⟨a, o, this, h0, h3, h4⟩
/-- a flat value -/
def ofV : V → D
  | .bl b => .bl b
  | .int i => .int i
  | .str x => .str x
  | _ => .non
def flatVb : V → Bool
  | .bl _ => true
  | .int _ => true
  | .str _ => true
  | .non => true
  | _ => false
theorem ofV_den {C : Ct} {φ : List Addr} {v : V} (h : flatVb v = true) : Den C φ F (ofV v) v := by
  cases v with
  | bl b => rw [ofV, Den]
  | int b => rw [ofV, Den]
  | str b => rw [ofV, Den]
  | non => simp only [ofV]; rw [Den]
  | _ => cases h
/-- a tuple as a key -/
def D.tkey (d : D) : Option NestedKey := match D.key d with
  | some (.tup ks) => if (NestedKey.tup ks).depth ≤ 8 then some (.tup ks) else none
  | _ => none
theorem tkey_ok {φ : List Addr} {d : D} {k : NestedKey} {v : V} (e : D.tkey d = some k) (h : Den B.C φ F d v) : ∃ b, v = .ref b ∧ NDen B.C.K F k (.ref b) ∧ k.depth ≤ 8 := by
  unfold D.tkey at e
  split at e
  · rename_i ks q
    split at e
    · rename_i hd
      cases e
      have z := key_den d _ v q h
      have z' := z
      rw [NDen] at z'
      obtain ⟨b, _, rfl, _⟩ := z'
      exact ⟨b, rfl, z, hd⟩
    · cases e
  · cases e
/-! ### d.get(k, x) -/
def dGetOr (kvs : List (NestedKey × V)) (k x : D) : Option D := match D.tkey k with
  | some key => (match dget kvs key with
    | some v => if flatVb v = true then some (ofV v) else none
    | none => some x)
  | none => none
def eGet (fo fk fx : ESem) : ESem := fun ρ γ => (fo ρ γ).bind fun d γ => match d with
  | .dic kvs => (fk ρ γ).bind fun k γ => (fx ρ γ).bind fun x γ => ofOpt (dGetOr kvs k x) γ
  | _ => .stuck
end
section
variable {X : Cx} {B : Fx} {W : WX} {o e f i : Expr} {fo fk fx : ESem} {apos cpos pos pos' : Pos}
theorem de_get (L : Lk X B) (hu : X.A.units + 64 < cLine) (ho : PE X o (tP B W fo)) (he : PE X e (tE B W fk)) (hf : PE X f (tE B W fx)) (m : M2 X o "get" apos e f cpos) : PE X (.Call (.Attribute o "get" apos) [e, f] [] cpos) (tE B W (eGet fo fk fx)) := by
  refine ⟨fun pins s σ H Q I h => ?_⟩
  obtain ⟨F, φ, ρ, γ, R, P⟩ := h
  have h2 : tP B W fo σ H fun x H1 => ∃ a ob, x = .ref a ∧ H1 a = some (knO a ob) ∧ ob.ExactDict ∧ tE B W fk σ H1 fun y H2 => tE B W fx σ H2 fun z H3 => ∃ F3 ob3 kvs key b, Same F3 H3 ∧ (a == sysModules) = false ∧ H3 a = some (knO a ob3) ∧ DicO B.C F3 ob3 kvs ∧ y = .ref b ∧ NDen B.C.K F3 key (.ref b) ∧ key.depth ≤ 8 ∧ Q ((dget kvs key).getD z) H3 := by
    refine run1 R P fun d γ1 v F1 φ1 H1 x1 R1 d1 P1 => ?_
    cases d with
    | dic kvs =>
      obtain ⟨a, ob, rfl, h0, h1, hd⟩ := Pk.dic R1 d1
      have hd' := hd
      obtain ⟨_, hx, _⟩ := hd'
      refine ⟨a, ob, rfl, h1, hx, ?_⟩
      refine run1 R1 P1 fun k γ2 y F2 φ2 H2 x2 R2 d2 P2 => ?_
      refine run1 R2 P2 fun x γ3 z F3 φ3 H3 x3 R3 d3 P3 => ?_
      obtain ⟨a', ob3, e3, h03, h13, hd3⟩ := Pk.dic R3 (Pk.up x3.f x3.p (Pk.up x2.f x2.p d1))
      cases e3
      have d2' : Den B.C φ3 F3 k y := Den.same x3.f x3.p _ _ d2
      have d3 : Den B.C φ3 F3 x z := d3
      simp only [dGetOr] at P3
      cases q : D.tkey k with
      | none => rw [q] at P3; exact P3.elim
      | some key =>
        rw [q] at P3
        simp only at P3
        obtain ⟨b, rfl, hk, hdp⟩ := tkey_ok q d2'
        refine ⟨F3, ob3, kvs, key, b, R3.c.sub, h03, h13, hd3, rfl, hk, hdp, ?_⟩
        cases q2 : dget kvs key with
        | none => rw [q2] at P3; exact P3 z F3 φ3 H3 (Ext.refl _ _ _) R3 d3
        | some w =>
          rw [q2] at P3
          simp only at P3
          by_cases hw : flatVb w = true
          · rw [if_pos hw] at P3; exact P3 w F3 φ3 H3 (Ext.refl _ _ _) R3 (ofV_den hw)
          · rw [if_neg hw] at P3; exact P3.elim
    | _ => exact P1.elim
  refine wpAny_Call_method m.base m.few m.line PySem.F.plainAttrs_dict PySem.F.slot_dict_get PySem.F.type_dict_get (thn (ho.run pins s σ H _ I h2) fun u s1 ⟨x, H1, I1, rx, a, ob, ex, ha, hx, q1⟩ => ?_)
  subst ex
  obtain rfl : u = Value.ref a := rx
  obtain ⟨hob, _, _⟩ := I1.hok a _ ha
  refine ⟨⟨ob, hob, hx.1⟩, fun b eb => ?_, ?_⟩
  · cases eb; exact ⟨ob, hob, hx.2.1⟩
  rw [m.trees]
  refine Calls.callWith_builtin rfl (Calls.evalArgs_plain (Calls.spliced_cons (thn (he.run pins s1 σ H1 _ I1 q1) fun iv s2 ⟨y, H2, I2, ry, q2⟩ =>
    Calls.spliced_cons (thn (hf.run pins s2 σ H2 _ I2 q2) fun fv s3 ⟨z, H3, I3, rz, F3, ob3, kvs, key, b, sm, h0, h1, hd, ey, hk, hdp, q3⟩ => Calls.spliced_nil ?_))))
  subst ey
  obtain rfl : iv = Value.ref b := ry
  obtain ⟨xs, hD, px, hks⟩ := dic_at L I3 sm h1 hd
  have hkey : (nestedKind X.prog X.w).is s3.heap key b := ⟨nden_is I3 sm key (.ref b) _ (by rw [L.K]; exact hk) rfl, hdp⟩
  refine getOr_keyed (knd := nestedKind X.prog X.w) (by show X.A.in1.units + 8 < cLine; show X.A.units + 1 + 8 < cLine; omega) hkey h0 ⟨xs, hD, rfl⟩ ?_
  refine ⟨_, H3, I3.tok _, ?_, q3⟩
  rw [valueAt_pairsH]
  cases q2 : dget kvs key with
  | none => rw [px_none px q2]; exact rz
  | some w =>
    obtain ⟨p, hp, r⟩ := px_get px q2
    rw [hp]
    exact r
/-! ### d[k] -/
def dItem (kvs : List (NestedKey × V)) (k : D) : Option D := match D.tkey k with
  | some key => (match dget kvs key with
    | some v => if flatVb v = true then some (ofV v) else none
    | none => none)
  | none => none
def eItem (fo fk : ESem) : ESem := fun ρ γ => (fo ρ γ).bind fun d γ => (fk ρ γ).bind fun k γ => match d with
  | .dic kvs => ofOpt (dItem kvs k) γ
  | _ => .stuck
theorem de_item (L : Lk X B) (hu : X.A.units + 64 < cLine) (ho : PE X o (tP B W fo)) (hi : PE X i (tE B W fk)) (hs : NoSl i := by exact fun _ _ => rfl) : PE X (.Subscript o i pos) (tE B W (eItem fo fk)) := by
  refine ⟨fun pins s σ H Q I h => ?_⟩
  obtain ⟨F, φ, ρ, γ, R, P⟩ := h
  have h2 : tP B W fo σ H fun x H1 => tE B W fk σ H1 fun y H2 => ∃ a F3 ob3 kvs key b w, x = .ref a ∧ Same F3 H2 ∧ H2 a = some (knO a ob3) ∧ DicO B.C F3 ob3 kvs ∧ y = .ref b ∧ NDen B.C.K F3 key (.ref b) ∧ key.depth ≤ 8 ∧ dget kvs key = some w ∧ Q w H2 := by
    refine run1 R P fun d γ1 v F1 φ1 H1 x1 R1 d1 P1 => ?_
    refine run1 R1 P1 fun k γ2 y F2 φ2 H2 x2 R2 d2 P2 => ?_
    cases d with
    | dic kvs =>
      obtain ⟨a', ob3, rfl, h03, h13, hd3⟩ := Pk.dic R2 (Pk.up x2.f x2.p d1)
      simp only [dItem] at P2
      cases q : D.tkey k with
      | none => rw [q] at P2; exact P2.elim
      | some key =>
        rw [q] at P2
        simp only at P2
        obtain ⟨b, rfl, hk, hdp⟩ := tkey_ok q d2
        cases q2 : dget kvs key with
        | none => rw [q2] at P2; exact P2.elim
        | some w =>
          rw [q2] at P2
          simp only at P2
          by_cases hw : flatVb w = true
          · rw [if_pos hw] at P2
            exact ⟨a', F2, ob3, kvs, key, b, w, rfl, R2.c.sub, h13, hd3, rfl, hk, hdp, q2, P2 w F2 φ2 H2 (Ext.refl _ _ _) R2 (ofV_den hw)⟩
          · rw [if_neg hw] at P2; exact P2.elim
    | _ => exact P2.elim
  refine subD_of PySem.F.slot_dict_getitem.lookup hs (thn (ho.run pins s σ H _ I h2) fun u s1 ⟨x, H1, I1, rx, q1⟩ => thn (hi.run pins s1 σ H1 _ I1 q1) fun iv s2 ⟨y, H2, I2, ry, a, F3, ob3, kvs, key, b, w, ex, sm, h1, hd, ey, hk, hdp, hg, q2⟩ => ?_)
  subst ex
  obtain rfl : u = Value.ref a := rx
  subst ey
  obtain rfl : iv = Value.ref b := ry
  obtain ⟨xs, hD, px, hks⟩ := dic_at L I2 sm h1 hd
  have hkey : (nestedKind X.prog X.w).is s2.heap key b := ⟨nden_is I2 sm key (.ref b) _ (by rw [L.K]; exact hk) rfl, hdp⟩
  obtain ⟨p, hp, r⟩ := px_get px hg
  exact ⟨hD.typeIs, wpAny_getItem_heap (knd := nestedKind X.prog X.w) (by show X.A.units + 1 + 8 < cLine; omega) hkey hD hp ⟨w, H2, I2.tok _, r, q2⟩⟩
/-! ### d[k] = v, d one's own -/
def rSetN (B : Fx) : V → V → V → Hp → (Hp → Prop) → Prop := fun o i v H Q => ∃ F a ob kvs key b, o = .ref a ∧ i = .ref b ∧ Same F H ∧ H a = some (knO a ob) ∧ DicO B.C F ob kvs ∧ NDen B.C.K F key (.ref b) ∧ key.depth ≤ 8 ∧ kvs.length ≤ 1000000 ∧ ∀ ob', DicO B.C F ob' (dput kvs key v) → Q (upd H a (knO a ob'))
theorem set_N (L : Lk X B) (hu : X.A.units + 64 < cLine) : PSet X (rSetN B) := by
  intro pins s σ H o i v ov iv u Q I ro ri rv h
  obtain ⟨F, a, ob, kvs, key, b, rfl, rfl, sm, h1, hd, hk, hdp, hl, q⟩ := h
  obtain rfl : ov = Value.ref a := ro
  obtain rfl : iv = Value.ref b := ri
  obtain ⟨xs, hD, px, hks⟩ := dic_at L I sm h1 hd
  have hkey : (nestedKind X.prog X.w).is s.heap key b := ⟨nden_is I sm key (.ref b) _ (by rw [L.K]; exact hk) rfl, hdp⟩
  refine wpAny_setItem_heap (knd := nestedKind X.prog X.w) (by show X.A.units + 1 + 8 < cLine; omega) hkey hD (fun h' hm' hs => ?_) (by rw [← px_len px]; exact Nat.le_trans hl SZ)
  obtain ⟨o', ho', hd'⟩ := dic_of (F := F) L hm' (px_put px rv) fun x hx => by
    rcases stored_mem hx with ⟨y, hy, e1, e2⟩ | ⟨e1, e2⟩
    · rw [← e1, ← e2]; exact hks y hy
    · rw [e1, e2]; exact ⟨hk, hdp⟩
  exact ⟨_, I.write (x := a) (e := a) (by rw [h1]; trivial) (.inl rfl) (fun c w hc e => (hs.2 c hc).trans e) ⟨o', ho'⟩ (knO_ok ho'), q o' hd'⟩
def sDput (i : Nat) (fk fv : ESem) : SSem := fun ρ γ => toOut (fv ρ γ) ρ fun v γ => match ρ[i]? with
  | some (some (.mine (.dic kvs))) => toOut (fk ρ γ) ρ fun k γ => (match D.tkey k with
    | some key => if v.flat = true ∧ kvs.length ≤ 1000000 then .nx (ρ.set i (some (.mine (.dic (dput kvs key v.v))))) γ else .stuck
    | none => .stuck)
  | _ => .stuck
theorem ds_dput {i : Nat} {x : Str} {p1 : Pos} {ke ve : Expr} {fv : ESem} (L : Lk X B) (hu : X.A.units + 64 < cLine) (hN : X.N[i]? = some x) (hv : Vis X.env.scope x) (hk : PE X ke (tE B W fk)) (hval : PE X ve (tE B W fv)) (hd : (x == ("__debug__" : Str)) = false := by decide) (hcd : (x == ("__classdict__" : Str)) = false := by decide)
    (ha : ∀ v, assign (.Subscript (.Name x p1) ke pos') X.env v = (do
      let ov ← holding [v] (eval (.Name x p1) X.env)
      let iv ← holding [v, ov] (eval ke X.env)
      standAt pos'
      holding [v, ov, iv] (setItem ov iv v)
      release [v, ov, iv] []) := by intro _; rfl)
    (hs : swapsWithSole [.Subscript (.Name x p1) ke pos'] ve pos.line X.env = pure false := by rfl) (hw : swappedStores [.Subscript (.Name x p1) ke pos'] ve X.env = pure none := by rfl)
    (h1 : (assignEach [.Subscript (.Name x p1) ke pos'] X.env).map (·.2) = [assign (.Subscript (.Name x p1) ke pos') X.env] := by rfl) :
    PS X (.Assign [.Subscript (.Name x p1) ke pos'] ve pos) (tS B W (sDput i fk fv)) := PS.imp (ps_asg hval (pg_sub (pe_var (i := i) hN hv hd hcd) hk (set_N L hu) ha) hs hw h1) fun E σ H ⟨F, φ, ρ, γ, R, P⟩ => by
  refine run1S R P fun v γ1 u F1 φ1 H1 x1 R1 d1 P1 => ?_
  have d1 : Den B.C φ1 F1 v u := d1
  split at P1
  · rename_i kvs e0
    rcases R1.fz i _ e0 with ⟨z, _, q⟩ | ⟨d', a, q, h2, al, ow⟩
    · rw [Den] at q; exact q.elim
    cases q
    refine ⟨.ref a, h2, ?_⟩
    refine run1S R1 P1 fun k γ2 y F2 φ2 H2 x2 R2 d2 P2 => ?_
    cases q : D.tkey k with
    | none => rw [q] at P2; exact P2.elim
    | some key =>
      rw [q] at P2
      simp only at P2
      by_cases hc : v.flat = true ∧ kvs.length ≤ 1000000
      · rw [if_pos hc] at P2
        obtain ⟨b, rfl, hk, hdp⟩ := tkey_ok q d2
        obtain ⟨e1, _⟩ := flat_den hc.1 d1
        obtain ⟨a', ob3, e3, h03, h13, hd3⟩ := Pk.dic R2 (.inr ⟨i, e0, h2⟩)
        cases e3
        refine ⟨F2, a, ob3, kvs, key, b, rfl, rfl, R2.c.sub, h13, hd3, hk, hdp, hc.2, fun ob' hd' => ?_⟩
        refine P2 σ F2 φ2 _ (same_refl _) (List.prefix_refl _) (R2.write e0 h2 ⟨h03, ob', upd_same, ?_⟩)
        rw [← e1]
        exact hd'
      · rw [if_neg hc] at P2; exact P2.elim
  · exact P1.elim
end
end DL

/-! DLb: dicts with nested keys: {}, displays, dict(..), walks, len, == -/
namespace DL
open PySem PySem.Spec PyProof.Rows L2
/-! ### hashes that no world decides -/
mutual
def nhash : NestedKey → Option Int
  | .none => none
  | .num i => some (hashInt i)
  | .text _ => none
  | .tup ks => (nhashes ks).map fun hs => reduceHash (Builtin.Tuple.tupleHashOf hs)
def nhashes : List NestedKey → Option (List Int)
  | [] => some []
  | k :: ks => match nhash k, nhashes ks with
    | some h, some hs => some (h :: hs)
    | _, _ => none
end
mutual
theorem nhash_ok (w : World) : ∀ (k : NestedKey) (h : Int), nhash k = some h → k.hash w = h
  | .none, h, e => by simp [nhash] at e
  | .num i, h, e => by simp only [nhash, Option.some.injEq] at e; rw [NestedKey.hash]; exact e
  | .text x, h, e => by simp [nhash] at e
  | .tup ks, h, e => by
    rw [nhash] at e
    cases q : nhashes ks with
    | none => rw [q] at e; cases e
    | some hs => rw [q] at e; cases e; rw [NestedKey.hash, nhashes_ok w ks hs q]
theorem nhashes_ok (w : World) : ∀ (ks : List NestedKey) (hs : List Int), nhashes ks = some hs → NestedKey.hashes w ks = hs
  | [], hs, e => by simp only [nhashes, Option.some.injEq] at e; rw [NestedKey.hashes]; exact e
  | k :: ks, hs, e => by
    rw [nhashes] at e
    cases q : nhash k with
    | none => rw [q] at e; cases e
    | some h =>
      cases q2 : nhashes ks with
      | none => rw [q, q2] at e; cases e
      | some hs' => rw [q, q2] at e; cases e; rw [NestedKey.hashes, nhash_ok w k h q, nhashes_ok w ks hs' q2]
end
/-- no two keys hash alike -/
def apart (kvs : List (NestedKey × V)) : Bool := match nhashes (kvs.map (·.1)) with
  | some hs => decide hs.Nodup
  | none => false
theorem hashes_map (w : World) : ∀ ks : List NestedKey, NestedKey.hashes w ks = ks.map fun k => k.hash w
  | [] => by rw [NestedKey.hashes]; rfl
  | k :: ks => by rw [NestedKey.hashes, hashes_map w ks]; rfl
theorem apart_ok {w : World} {kvs : List (NestedKey × V)} (h : apart kvs = true) : (kvs.map fun p => p.1.hash w).Nodup := by
  unfold apart at h
  cases q : nhashes (kvs.map (·.1)) with
  | none => rw [q] at h; cases h
  | some hs =>
    rw [q] at h
    have e := nhashes_ok w _ hs q
    rw [hashes_map, List.map_map] at e
    have e' : (kvs.map fun p => p.1.hash w) = hs := e
    rw [e']
    exact of_decide_eq_true h
section
variable {X : Cx} {B : Fx} {W : WX} {e : Expr} {fe : ESem} {pos : Pos}
theorem px_keys {kvs : List (NestedKey × V)} {xs : List (NestedKey × Addr × Value)} (h : PX kvs xs) : kvs.map (·.1) = xs.map (·.1) := by
  induction h with
  | nil => rfl
  | cons r _ ih => rw [List.map_cons, List.map_cons, r.1, ih]
theorem big_ne {pins : List (Addr × Obj)} {σ : St} {H : Hp} {s : Shared} (I : Inv X pins σ H s) : (s.heap.objs.size == sysModules) = false := beq_eq_false_iff_ne.mpr (Nat.ne_of_gt I.big)
/-! ### {} -/
def emptyO : Obj := { cls := .type "dict", data := .dict #[] }
theorem dicO_nil {C : Ct} {F : Hp} : DicO C F emptyO [] := by
  refine ⟨[], ?_, ?_, ?_, ?_, ?_⟩
  all_goals first | exact ⟨rfl, rfl, rfl⟩ | exact ⟨#[], 0, rfl, rfl⟩ | exact List.nodup_nil | exact .nil | (intro x hx; cases hx)
theorem pe_dnewN : PE X (.Dict [] [] pos) (fun _ H Q => ∀ p, H p = none → (p == sysModules) = false → Q (.ref p) (upd H p (knO p emptyO))) := ⟨fun pins s σ H Q I h =>
  wpAny_Dict_empty ⟨.ref s.heap.objs.size, _, I.laid (a := s.heap.objs.size) (o := knO s.heap.objs.size emptyO) (t' := s.toks) (fun _ _ q => Heap.get?_push_of_some _ q) (Nat.le_refl _) (knO_ok (Heap.get?_push_size _ rfl)), rfl, h _ (I.hok.fresh (Nat.le_refl _)) (big_ne I)⟩⟩
theorem df_dnew : PE X (.Dict [] [] pos) (tF B W (eC (.dic []))) := PE.imp pe_dnewN fun σ H Q ⟨F, φ, ρ, γ, R, P⟩ => fun p hp hs => by
  obtain ⟨x2, R2, al, nj⟩ := R.layH (o := knO p emptyO) hp
  exact P _ F φ _ x2 R2 ⟨p, rfl, al, ⟨hs, emptyO, upd_same, dicO_nil⟩, nj, hp⟩
/-! ### a new dict of the heap, as data -/
theorem Gv.dic {F H : Hp} {φ : List Addr} {ρ : Env} {γ : List D} {σ : St} {kvs : List (NestedKey × V)} {Q : VK} {p : Addr} {o : Obj} (g : Gv B F φ H ρ γ σ (.dic kvs) Q) (R : Rel B F φ H ρ γ σ) (hd : DicO B.C F o kvs) (hp : H p = none) (hs : (p == sysModules) = false) : Q (.ref p) (upd H p (knO p o)) := by
  have hF : F p = none := R.fnone hp
  refine g _ (upd F p (knO p o)) φ _ (ext_lay R.c.sub hp) (R.lay hp) ?_
  rw [Den]
  exact ⟨p, o, rfl, hs, upd_same, hd.same (same_upd hF)⟩
theorem Gf.dic {F H : Hp} {φ : List Addr} {ρ : Env} {γ : List D} {σ : St} {kvs : List (NestedKey × V)} {Q : VK} {p : Addr} {o : Obj} (g : Gf B F φ H ρ γ σ (.dic kvs) Q) (R : Rel B F φ H ρ γ σ) (hd : DicO B.C F o kvs) (hp : H p = none) (hs : (p == sysModules) = false) : Q (.ref p) (upd H p (knO p o)) := by
  obtain ⟨x2, R2, al, nj⟩ := R.layH (o := knO p o) hp
  exact g _ F φ _ x2 R2 ⟨p, rfl, al, ⟨hs, o, upd_same, hd⟩, nj, hp⟩
/-! ### dict(d) -/
def rDcopy (B : Fx) : List V → Hp → VK → Prop := fun xs H Q => ∃ F a ob kvs, xs = [.ref a] ∧ Same F H ∧ (a == sysModules) = false ∧ H a = some (knO a ob) ∧ DicO B.C F ob kvs ∧ apart kvs = true ∧ kvs.length ≤ 1000000 ∧ ∀ p ob', H p = none → (p == sysModules) = false → DicO B.C F ob' kvs → Q (.ref p) (upd H p (knO p ob'))
theorem call_dcopy (L : Lk X B) (hu : X.A.units + 64 < cLine) : CallR X (.type "dict") (rDcopy B) := by
  intro pins s σ H xs us Q I r h
  obtain ⟨F, a, ob, kvs, rfl, sm, hs, h1, hd, hap, hl, q⟩ := h
  obtain ⟨u, rfl, ru⟩ := vals1 r
  obtain rfl : u = Value.ref a := ru
  obtain ⟨ys, hD, px, hks⟩ := dic_at L I sm h1 hd
  obtain ⟨o, es, ep, ho, _⟩ := id hD
  refine callType_codes (Q₁ := fun obj s₁ => obj = .ref s.heap.objs.size ∧ s₁ = { s with heap := s.heap.push { cls := .type "dict", data := .dict #[] } }) PySem.F.kt_called_dict (PySem.F.kt_typeCall_dict_1 _) PySem.F.entry_dict_init (kt_code_dict_new _ ⟨rfl, rfl⟩) ?_
  rintro obj s₁ ⟨rfl, rfl⟩
  have hT : Shared.TypeIs { s with heap := s.heap.push { cls := .type "dict", data := .dict #[] } } (.ref s.heap.objs.size) "dict" := ⟨_, Heap.get?_push_size _ rfl, rfl⟩
  refine ⟨hT, PySem.F.args_dict_init_2 _ _, ?_⟩
  unfold Builtin.«dict.__init__»
  refine wpAny_bind ?_
  unfold Builtin.Dict.selfAndRest
  refine wpAny_bind (wpAny_notOrdered_dict hT ?_)
  show wpAny _ _ (pure (s.heap.objs.size, [Value.ref a])) _ _ _
  refine wpAny_pure ?_
  have keep : ∀ b o, s.heap.get? b = some o → (s.heap.push { cls := .type "dict", data := .dict #[] }).get? b = some o := fun b o e => Heap.get?_push_of_some _ e
  have hD1 : (s.heap.push { cls := .type "dict", data := .dict #[] }).DictOfH (nestedKind X.prog X.w) a ys := by
    obtain ⟨o, es, ep, ho, h1, h2, h3, h4, h5⟩ := hD
    exact ⟨o, es, ep, keep _ _ ho, h1, h2, h3, fun x hx => nestedKind_stays.stays (fun b o _ _ e _ => keep b o e) (h4 x hx), h5⟩
  have hne : s.heap.objs.size ≠ a := Nat.ne_of_gt (Heap.lt_size ho)
  refine updateFrom_dictH (A := X.A.in1) (knd := nestedKind X.prog X.w) (kvs := []) .none (by show X.A.units + 1 + 1 + 8 < cLine; omega) hne hs (Heap.DictOfH.new s.heap) hD1 (.inr ⟨fun x hx => ?_, ?_⟩) (by rw [List.length_nil, Nat.zero_add, ← px_len px]; exact Nat.le_trans hl SZ) fun h' hd' ho' hsb => ?_
  · obtain ⟨o, es, ep, ho, h1, h2, h3, h4, h5⟩ := hD1
    exact nestedKind_stays.tuple (h4 x hx)
  · have z := apart_ok (w := X.w) hap
    have e : (kvs.map fun p => p.1.hash X.w) = ys.map fun x => (nestedKind X.prog X.w).hash x.1 := by
      have := congrArg (List.map fun k => k.hash X.w) (px_keys px)
      rw [List.map_map, List.map_map] at this
      exact this
    rw [← e]
    exact z
  · rw [storedAllH_nil_of_nodup _ hD.nodup] at hd'
    obtain ⟨o', hoo, hdo⟩ := dic_of (F := F) L hd' px hks
    refine ⟨rfl, .ref s.heap.objs.size, _, I.laid (t' := s.toks) (o := knO s.heap.objs.size o') (fun b o e => (hsb.2 b (Nat.ne_of_lt (Heap.lt_size e))).trans (keep b o e)) (Nat.le_refl _) (knO_ok hoo), rfl, q _ o' (I.hok.fresh (Nat.le_refl _)) (big_ne I) hdo⟩
def dCopy : List D → Option D
  | [.dic kvs] => if apart kvs = true ∧ kvs.length ≤ 1000000 then some (.dic kvs) else none
  | _ => none
theorem cd_copy : CallD B (rDcopy B) dCopy := by
  intro F φ H ρ γ σ ds d vs Q R p e G
  match ds, e with
  | [.dic kvs], e =>
    simp only [dCopy] at e
    by_cases hc : apart kvs = true ∧ kvs.length ≤ 1000000
    · rw [if_pos hc] at e
      cases e
      obtain ⟨v, rfl, h⟩ := p.one
      obtain ⟨a, ob, rfl, h0, h1, hd⟩ := Pk.dic R h
      exact ⟨F, a, ob, kvs, rfl, R.c.sub, h0, h1, hd, hc.1, hc.2, fun p ob' hp hs hd' => G.dic R hd' hp hs⟩
    · rw [if_neg hc] at e; cases e
theorem cf_copy : CallF B (rDcopy B) dCopy := by
  intro F φ H ρ γ σ ds d vs Q R p e G
  match ds, e with
  | [.dic kvs], e =>
    simp only [dCopy] at e
    by_cases hc : apart kvs = true ∧ kvs.length ≤ 1000000
    · rw [if_pos hc] at e
      cases e
      obtain ⟨v, rfl, h⟩ := p.one
      obtain ⟨a, ob, rfl, h0, h1, hd⟩ := Pk.dic R h
      exact ⟨F, a, ob, kvs, rfl, R.c.sub, h0, h1, hd, hc.1, hc.2, fun p ob' hp hs hd' => G.dic R hd' hp hs⟩
    · rw [if_neg hc] at e; cases e
/-! ### len(d) -/
theorem call_lenN (L : Lk X B) : CallR X (.builtin "len") (fun xs H Q => ∃ F a ob kvs, xs = [.ref a] ∧ Same F H ∧ (a == sysModules) = false ∧ H a = some (knO a ob) ∧ DicO B.C F ob kvs ∧ kvs.length ≤ 1000000 ∧ Q (.int kvs.length) H) := by
  intro pins s σ H xs us Q I r h
  obtain ⟨F, a, ob, kvs, rfl, sm, hs, h1, hd, hl, q⟩ := h
  obtain ⟨u, rfl, ru⟩ := vals1 r
  obtain rfl : u = Value.ref a := ru
  obtain ⟨ys, hD, px, hks⟩ := dic_at L I sm h1 hd
  have hm : s.heap.DictKeyed (nestedKind X.prog X.w) a (pairsH ys) := ⟨ys, hD, rfl⟩
  have e : ((pairsH ys).length : Int) = (kvs.length : Int) := by rw [pairsH_length, px_len px]
  refine PyProof.Rows.call_len_slot (n := (pairsH ys).length) hm.typeIs PySem.F.slot_dict_len (fun Q' hq => len_keyed hs hm hq) (by omega) (by rw [e]; omega) ?_
  exact ⟨.int kvs.length, H, I.tok _, ⟨_, by rw [e]⟩, q⟩
def dLenN : List D → Option D
  | [.dic kvs] => if kvs.length ≤ 1000000 then some (.int kvs.length) else none
  | _ => none
theorem cd_lenN : CallD B (fun xs H Q => ∃ F a ob kvs, xs = [.ref a] ∧ Same F H ∧ (a == sysModules) = false ∧ H a = some (knO a ob) ∧ DicO B.C F ob kvs ∧ kvs.length ≤ 1000000 ∧ Q (.int kvs.length) H) dLenN := by
  intro F φ H ρ γ σ ds d vs Q R p e G
  match ds, e with
  | [.dic kvs], e =>
    simp only [dLenN] at e
    by_cases hc : kvs.length ≤ 1000000
    · rw [if_pos hc] at e
      cases e
      obtain ⟨v, rfl, h⟩ := p.one
      obtain ⟨a, ob, rfl, h0, h1, hd⟩ := Pk.dic R h
      exact ⟨F, a, ob, kvs, rfl, R.c.sub, h0, h1, hd, hc, G.now R (by rw [Den])⟩
    · rw [if_neg hc] at e; cases e
end
end DL

/-! DLc: dicts with nested keys: walks, displays of one pair, dict(list of pairs) -/
namespace DL
open PySem PySem.Spec PyProof.Rows L2
/-! ### the keys, walked -/
def Itn (a : Addr) (o : Obj) (ks : List V) : It := ⟨fun i H => H a = some (knO a o) ∧ i < ks.length, fun i H x H' => H' = H ∧ ks[i]? = some x, fun i H => H a = some (knO a o) ∧ ks.length ≤ i⟩
theorem turn_N {P : Program} {w : World} {K : PySem.W.Frag} {tg : Expr} {a : Addr} {o : Obj} {es : Array DictEntry} {ep : Nat} {ks : List V} (it : Addr) (hod : o.data = .dict es ep) (hsz : es.size = ks.length)
    (hent : ∀ (i : Nat) (v : V), ks[i]? = some v → ∃ en b, es[i]? = some en ∧ v = .ref b ∧ en.key = .ref b) : Turn P w K tg (Itn a o ks) [it] it (fun i h => h.IsKeyIter it a i ks.length ep) where
  mem := by simp
  obj := fun i h st b hb => by
    have e : b = it := by simpa using hb
    subst e
    obtain ⟨oi, e, c, dd⟩ := st
    exact ⟨oi, e, fun v z => by rw [dd] at z; cases z⟩
  keep := fun i h h' st k => st.at fun oi e => k it (by simp) oi e
  item := by
    intro X hP hw hK hc i pins s σ H E I hf st hg
    subst hP hw hK
    obtain ⟨hd, hi⟩ := hg
    obtain ⟨f0, f1, f2, f3, f4, f5⟩ := hf it (by simp)
    have hgd := (I.hok a _ hd).1
    obtain ⟨en, q, hen, hv, hkey⟩ := hent i ks[i] (List.getElem?_eq_getElem hi)
    refine next_key_item st hgd hod hsz hen fun h' st' sb => ?_
    have I1 : Inv X pins σ H { s with heap := h' } := I.turned (t' := s.toks) (fun b ob hb e => (sb.2 b hb).trans e) f0 f1 f3 f4 f5
    obtain ⟨oi, e, c, dd⟩ := id st'
    exact ⟨en.key, rfl, go_of (s := { s with heap := h' }) e c dd (by decide) ⟨.ref q, H, I1, hkey, ⟨rfl, by rw [List.getElem?_eq_getElem hi, hv]⟩, st', fun b hb => (hf b hb).1⟩⟩
  done := by
    intro X hP hw hK hc i pins s σ H E I hf st hg
    subst hP hw hK
    obtain ⟨hd, hi⟩ := hg
    obtain ⟨f0, f1, f2, f3, f4, f5⟩ := hf it (by simp)
    have hgd := (I.hok a _ hd).1
    exact next_key_end (I.ok.hd hc) st hgd hod hsz hi fun h' eb => ⟨rfl, I.turned (t' := s.toks) (fun b ob hb e => eb b ob hb e) f0 f1 f3 f4 f5⟩
  self := fun A i s Q E st h => by
    refine wpAny_pyIter_slot st.typeIs F.slot_dict_keyiterator_iter (wpAny_call_entry F.slot_dict_keyiterator_iter st.typeIs F.entry_dict_keyiterator_iter ?_ (F.args_dict_keyiterator_iter_1 _))
    show wpAny _ _ (ret (.ref it)) _ _ s
    exact wpAny_pure ⟨_, rfl, "dict_keyiterator", _, st.typeIs, F.slot_dict_keyiterator_next.lookup, h⟩
section
variable {X : Cx} {B : Fx} {W : WX} {e : Expr} {fe : ESem} {pos : Pos} {tg : Expr}
def iN (B : Fx) (td : TE) : TI := fun σ H R => td σ H fun x H1 => ∃ F a o kvs, x = .ref a ∧ (a == sysModules) = false ∧ Same F H1 ∧ H1 a = some (knO a o) ∧ DicO B.C F o kvs ∧
  ∀ ks : List V, ks.length = kvs.length → (∀ (i : Nat) (p : NestedKey × V), kvs[i]? = some p → ∃ b, ks[i]? = some (.ref b) ∧ NDen B.C.K F p.1 (.ref b)) → R (Itn a o ks) H1
theorem pi_N {td : TE} (he : PE X e td) : PI X tg e (iN B td) := by
  refine ⟨fun pins s σ H R I h => ?_⟩
  refine thn (he.run pins s σ H _ I h) fun u s1 ⟨x, H1, I1, rx, F, a, o, kvs, ex, hs, sm, ha, hd, q⟩ => ?_
  subst ex
  obtain rfl : u = Value.ref a := rx
  obtain ⟨xs, hx, ⟨es, ep, hdt, hes⟩, hn, hk, px⟩ := hd
  have hgd := (I1.hok a _ ha).1
  have hsz : es.size = xs.length := size_of_entries hes
  refine iter_keys hs hgd hx hdt (pi_one (tk := s1.toks) I1 _ (turn_N (ks := xs.map fun x => V.ref x.2.1) _ hdt (by rw [List.length_map]; exact hsz) fun i v hv => ?_) ⟨_, Heap.get?_push_size _ rfl, rfl, ?_⟩ (q (xs.map fun x => V.ref x.2.1) ?_ ?_))
  · rw [List.getElem?_map] at hv
    cases q : xs[i]? with
    | none => rw [q] at hv; cases hv
    | some x =>
      rw [q] at hv
      cases hv
      have z := entry_at hes i
      rw [q] at z
      exact ⟨_, x.2.1, z, rfl, rfl⟩
  · rw [hsz, List.length_map]; rfl
  · rw [List.length_map]; exact (px_len px).symm
  · intro i p hp
    obtain ⟨b, hb, e1, e2⟩ := paired_get px hp
    refine ⟨b.2.1, by rw [List.getElem?_map, hb]; rfl, ?_⟩
    rw [e1]
    exact (hk b (List.mem_of_getElem? hb)).1
def lDic (f : ESem) : LSem := fun ρ γ => (f ρ γ).bind fun x γ => match x with
  | .dic kvs => .ok (kvs.map fun p => ofKey p.1) γ
  | _ => .stuck
theorem di_keys (h : PE X e (tE B W fe)) : PI X tg e (tG B W (rSrc B) (lDic fe)) := PI.imp (pi_N (B := B) h) fun σ H Q ⟨F, φ, ρ, γ, R, P⟩ => by
  refine run1 R P fun d γ1 v F1 φ1 H1 x1 R1 d1 P1 => ?_
  cases d with
  | dic kvs =>
    have d1 : Den B.C φ1 F1 (.dic kvs) v := d1
    rw [Den] at d1
    obtain ⟨a, o, rfl, h0, h1, h2⟩ := d1
    refine ⟨F1, a, o, kvs, rfl, h0, R1.c.sub, R1.c.sub _ _ h1, h2, fun ks hl hk => P1 _ F1 φ1 H1 (Ext.refl _ _ _) R1 ⟨fun i H hi s => ⟨s _ _ h1, ?_⟩, fun i H hi s => ⟨s _ _ h1, ?_⟩, fun i H x H' d e s y => ?_⟩⟩
    · rw [hl]; simpa using hi
    · rw [hl]; simpa using hi
    · obtain ⟨rfl, y⟩ := y
      rw [List.getElem?_map] at e
      cases q : kvs[i]? with
      | none => rw [q] at e; cases e
      | some p =>
        rw [q] at e
        cases e
        obtain ⟨b, hb, hn⟩ := hk i p q
        rw [hb] at y
        cases y
        exact .inl ⟨rfl, ofKey_den _ _ hn⟩
  | _ => exact P1.elim
/-! ### {k: v} -/
def tDisp1 (B : Fx) (tk tv : TE) : TE := fun σ H Q => ∀ p, H p = none → (p == sysModules) = false → tk σ (upd H p (knO p emptyO)) fun x H1 => tv σ H1 fun y H2 => H2 p = some (knO p emptyO) ∧ ∃ F key b, Same F H2 ∧ x = .ref b ∧ NDen B.C.K F key (.ref b) ∧ key.depth ≤ 8 ∧ ∀ o', DicO B.C F o' [(key, y)] → Q (.ref p) (upd H2 p (knO p o'))
theorem pe_disp1 {ke ve : Expr} {tk tv : TE} (L : Lk X B) (hu : X.A.units + 64 < cLine) (hk : PE X ke tk) (hv : PE X ve tv) : PE X (.Dict [some ke] [ve] pos) (tDisp1 B tk tv) := by
  refine ⟨fun pins s σ H Q I q => ?_⟩
  have hn := I.hok.fresh (Nat.le_refl s.heap.objs.size)
  have I1 := I.laid (a := s.heap.objs.size) (o := knO s.heap.objs.size emptyO) (h' := s.heap.push emptyO) (t' := s.toks) (fun _ _ q => Heap.get?_push_of_some _ q) (Nat.le_refl _) (knO_ok (Heap.get?_push_size _ rfl))
  have hlen := pairTrees_length [some ke] [ve] X.env pos rfl rfl
  have h15 : (pairTrees [some ke] [ve] X.env pos).length ≤ 15 := by rw [hlen]; exact (by decide : 1 ≤ 15)
  rw [arm_eval_Dict, zip_pairTrees [some ke] [ve] X.env pos rfl rfl, dictDisplay_pairs _ (fun z => by rw [z] at hlen; cases hlen) (by omega)]
  refine wpAny_bind (wpAny_standAt (wpAny_bind (wpAny_subDictH (knd := nestedKind X.prog X.w) (by show X.A.units + 8 < cLine; omega) h15 ?_)))
  refine pairTrees_cons_walk (thn (hk.run pins _ σ _ _ I1 (q _ hn (big_ne I))) fun u s1 ⟨x, H1, I1, rx, q1⟩ => thn (hv.run pins s1 σ H1 _ I1 q1) fun w2 s2 ⟨y, H2, I2, ry, q2⟩ => pairTrees_nil_walk ?_)
  obtain ⟨he, F, key, b, sm, rfl, hkd, hdp, q3⟩ := q2
  obtain rfl : u = Value.ref b := rx
  have hkey : (nestedKind X.prog X.w).is s2.heap key b := ⟨nden_is I2 sm key (.ref b) _ (by rw [L.K]; exact hkd) rfl, hdp⟩
  obtain ⟨he2, _, _⟩ := I2.hok _ _ he
  refine ⟨[(key, b, w2)], ⟨rfl, rfl, hkey, trivial⟩, ⟨emptyO, #[], 0, he2, ⟨rfl, rfl, rfl⟩, rfl, rfl, (fun _ hx => nomatch hx), List.nodup_nil⟩, fun h' tk hD hs => ?_⟩
  have hD : h'.DictOfH (nestedKind X.prog X.w) s.heap.objs.size [(key, b, w2)] := hD
  obtain ⟨o', ho', hd'⟩ := dic_of (F := F) (kvs := [(key, y)]) L hD (.cons ⟨rfl, ry⟩ .nil) fun x hx => by
    cases (List.mem_singleton.mp hx)
    exact ⟨hkd, hdp⟩
  exact wpAny_pure ⟨.ref s.heap.objs.size, _, I2.write (x := s.heap.objs.size) (e := s.heap.objs.size) (t' := tk) (by rw [he]; trivial) (.inl rfl) (fun c w hc e => (hs.2 c hc).trans e) ⟨o', ho'⟩ (knO_ok ho'), rfl, q3 o' hd'⟩
def eDisp1 (fk fv : ESem) : ESem := fun ρ γ => (fk ρ γ).bind fun k γ => (fv ρ γ).bind fun v γ => match D.tkey k with
  | some key => if v.flat = true then .ok (.dic [(key, v.v)]) γ else .stuck
  | none => .stuck
theorem df_disp1 {ke ve : Expr} {fk fv : ESem} (L : Lk X B) (hu : X.A.units + 64 < cLine) (hk : PE X ke (tE B W fk)) (hv : PE X ve (tE B W fv)) : PE X (.Dict [some ke] [ve] pos) (tF B W (eDisp1 fk fv)) := PE.imp (pe_disp1 L hu hk hv) fun σ H Q ⟨F, φ, ρ, γ, R, P⟩ => fun p hp hs => by
  obtain ⟨x2, R2, al, nj⟩ := R.layH (o := knO p emptyO) hp
  have P2 : Post B W (rFr B) F φ H ρ σ (eDisp1 fk fv ρ γ) Q := P
  refine ⟨F, φ, ρ, γ, R2, ?_⟩
  unfold eDisp1 at P2
  cases ek : fk ρ γ with
  | stuck => rw [ek] at P2; exact P2.elim
  | err c γ1 => rw [ek] at P2; exact fun F' φ' H' x R' => P2 F' φ' H' (x2.trans x) R'
  | ok k γ1 =>
    rw [ek] at P2
    intro u F3 φ3 H3 x3 R3 d3
    have d3 : Den B.C φ3 F3 k u := d3
    refine ⟨F3, φ3, ρ, γ1, R3, ?_⟩
    dsimp only [Res.bind_ok] at P2
    cases ev : fv ρ γ1 with
    | stuck => rw [ev] at P2; exact P2.elim
    | err c γ2 => rw [ev] at P2; exact fun F' φ' H' x R' => P2 F' φ' H' (x2.trans (x3.trans x)) R'
    | ok v γ2 =>
      rw [ev] at P2
      intro y F4 φ4 H4 x4 R4 d4
      have d4 : Den B.C φ4 F4 v y := d4
      dsimp only [Res.bind_ok] at P2
      have h3 : H3 p = some (knO p emptyO) := x3.k p _ upd_same al.p nt_kn
      have al3 := al.step x3 ⟨_, upd_same⟩
      have h4 : H4 p = some (knO p emptyO) := x4.k p _ h3 al3.p nt_kn
      have al4 := al3.step x4 ⟨_, h3⟩
      refine ⟨h4, ?_⟩
      cases eq : D.tkey k with
      | none => rw [eq] at P2; exact P2.elim
      | some key =>
        rw [eq] at P2
        simp only at P2
        by_cases hc : v.flat = true
        · rw [if_pos hc] at P2
          obtain ⟨b, rfl, hkd, hdp⟩ := tkey_ok eq (Den.same x4.f x4.p _ _ d3)
          obtain ⟨e1, _⟩ := flat_den hc d4
          refine ⟨F4, key, b, R4.c.sub, rfl, hkd, hdp, fun o' hd' => ?_⟩
          refine P2 _ F4 φ4 _ (ext_upd (x2.trans (x3.trans x4)) hp) (R4.updAlone al4 nj h4 nt_kn) ⟨p, rfl, al4, ⟨hs, o', upd_same, ?_⟩, nj, hp⟩
          rw [← e1]
          exact hd'
        · rw [if_neg hc] at P2; exact P2.elim
/-! ### dict([(k, v), ..]) -/
theorem pairs_at {pins : List (Addr × Obj)} {σ : St} {H : Hp} {s : Shared} (I : Inv X pins σ H s) : ∀ {ts : List Addr} {ps : List (V × V)}, ts.length = ps.length → (∀ (i : Nat) (t : Addr) (p : V × V), ts[i]? = some t → ps[i]? = some p → SqT X.K H t [p.1, p.2]) →
    ∃ qs : List (Value × Value), VV ps qs ∧ ∀ (j : Nat) (q : Value × Value), qs[j]? = some q → ∃ t, ts[j]? = some t ∧ s.heap.IsTuple t #[q.1, q.2]
  | [], [], _, _ => ⟨[], .nil, fun j q e => by simp at e⟩
  | t :: ts, p :: ps, hl, ht => by
    obtain ⟨qs, h1, h2⟩ := pairs_at I (ts := ts) (ps := ps) (by simpa using hl) fun i t p e1 e2 => ht (i + 1) t p (by simpa using e1) (by simpa using e2)
    obtain ⟨its, rv, p', _⟩ := I.tuple (ht 0 t p rfl rfl)
    obtain ⟨u, v, rfl, ru, rv⟩ := Vals.two rv
    refine ⟨(u, v) :: qs, .cons ⟨ru, rv⟩ h1, fun j q e => ?_⟩
    cases j with
    | zero => simp at e; subst e; exact ⟨t, rfl, p'⟩
    | succ j => simp at e; simpa using h2 j q e
  | [], _ :: _, hl, _ => by simp at hl
  | _ :: _, [], hl, _ => by simp at hl
theorem vals_refs : ∀ {ts : List Addr} {its : List Value}, Vals (ts.map V.ref) its → its = ts.map Value.ref
  | [], its, r => by cases r; rfl
  | t :: ts, its, r => by
    rw [List.map_cons] at r
    cases r with
    | @cons _ u _ us h h2 => rw [List.map_cons, vals_refs h2, show u = Value.ref t from h]
theorem items_at {h : Heap} {ts : List Addr} {its : List Value} {qs : List (Value × Value)} (r : Vals (ts.map V.ref) its) (hl : ts.length = qs.length) (hq : ∀ (j : Nat) (q : Value × Value), qs[j]? = some q → ∃ t, ts[j]? = some t ∧ h.IsTuple t #[q.1, q.2]) : PairItems h its.toArray (fun j => (ts[j]?).getD 0) qs := by
  have e := vals_refs r
  subst e
  refine ⟨by simpa using hl, fun j k v hj => ?_⟩
  obtain ⟨t, h1, h2⟩ := hq j _ hj
  refine ⟨?_, ?_⟩
  · simp [h1]
  · show PairAt h ((ts[j]?).getD 0) k v
    rw [h1]
    exact .inl h2
theorem px_puts : ∀ {ps : List (NestedKey × V)} {qs : List (NestedKey × Addr × Value)} {kvs : List (NestedKey × V)} {xs : List (NestedKey × Addr × Value)}, PX ps qs → PX kvs xs → PX (ps.foldl (fun acc p => dput acc p.1 p.2) kvs) (storedAllH xs qs) := by
  intro ps qs kvs xs h
  induction h generalizing kvs xs with
  | nil => exact fun q => q
  | @cons p q ps qs r _ ih =>
    intro hx
    show PX (ps.foldl _ (dput kvs p.1 p.2)) (storedAllH (storedH xs q.1 q.2.1 q.2.2) qs)
    refine ih ?_
    rw [r.1]
    exact px_put hx r.2
theorem storeds_mem : ∀ {qs xs : List (NestedKey × Addr × Value)} {x : NestedKey × Addr × Value}, x ∈ storedAllH xs qs → (∃ y ∈ xs, y.1 = x.1 ∧ y.2.1 = x.2.1) ∨ ∃ y ∈ qs, y.1 = x.1 ∧ y.2.1 = x.2.1
  | [], xs, x, h => .inl ⟨x, h, rfl, rfl⟩
  | q :: qs, xs, x, h => by
    have h : x ∈ storedAllH (storedH xs q.1 q.2.1 q.2.2) qs := h
    rcases storeds_mem h with ⟨y, hy, e1, e2⟩ | ⟨y, hy, e⟩
    · rcases stored_mem hy with ⟨z, hz, e3, e4⟩ | ⟨e3, e4⟩
      · exact .inl ⟨z, hz, e3.trans e1, e4.trans e2⟩
      · exact .inr ⟨q, by simp, e3.symm.trans e1, e4.symm.trans e2⟩
    · exact .inr ⟨y, by simp [hy], e⟩
def rDictP (B : Fx) : List V → Hp → VK → Prop := fun xs H Q => ∃ (F : Hp) (a : Addr) (ps : List (NestedKey × Addr × V)) (ts : List Addr), xs = [.ref a] ∧ Same F H ∧ H a = some (.lst (ts.map V.ref)) ∧ ts.length = ps.length ∧ ps.length ≤ 1000000 ∧ (∀ (i : Nat) (t : Addr) (p : NestedKey × Addr × V), ts[i]? = some t → ps[i]? = some p → SqT B.C.K H t [.ref p.2.1, p.2.2]) ∧ (∀ p ∈ ps, NDen B.C.K F p.1 (.ref p.2.1) ∧ p.1.depth ≤ 8) ∧
  ∀ p o, H p = none → (p == sysModules) = false → DicO B.C F o ((ps.map fun p => (p.1, p.2.2)).foldl (fun acc p => dput acc p.1 p.2) []) → Q (.ref p) (upd H p (knO p o))
theorem triples {ps : List (NestedKey × Addr × V)} : ∀ {qs : List (Value × Value)}, VV (ps.map fun p => (V.ref p.2.1, p.2.2)) qs → ∃ zs : List (NestedKey × Addr × Value), qs = zs.map (fun z => (Value.ref z.2.1, z.2.2)) ∧ PX (ps.map fun p => (p.1, p.2.2)) zs ∧ (∀ z ∈ zs, ∃ p ∈ ps, p.1 = z.1 ∧ p.2.1 = z.2.1) := by
  induction ps with
  | nil => intro qs h; cases h; exact ⟨[], rfl, .nil, fun _ h => nomatch h⟩
  | cons p ps ih =>
    intro qs h
    rw [List.map_cons] at h
    cases h with
    | @cons _ q _ qs r h2 =>
      obtain ⟨zs, rfl, h3, h4⟩ := ih h2
      obtain ⟨q1, q2⟩ := q
      obtain rfl : q1 = Value.ref p.2.1 := r.1
      refine ⟨(p.1, p.2.1, q2) :: zs, rfl, .cons ⟨rfl, r.2⟩ h3, fun z hz => ?_⟩
      rcases List.mem_cons.mp hz with rfl | hz
      · exact ⟨p, by simp, rfl, rfl⟩
      · obtain ⟨p', hp', e⟩ := h4 z hz
        exact ⟨p', by simp [hp'], e⟩
theorem call_dictP (L : Lk X B) (hc : X.calm = true) (hu : X.A.units + 64 < cLine) : CallR X (.type "dict") (rDictP B) := by
  intro pins s σ H xs us Q I r h
  obtain ⟨F, a, ps, ts, rfl, sm, ha, hl, hz, ht, hk, q⟩ := h
  obtain ⟨u, rfl, ru⟩ := vals1 r
  obtain rfl : u = Value.ref a := ru
  obtain ⟨its, rv, p, _⟩ := I.list (.inl (.inl ha))
  obtain ⟨qs, hv, hq⟩ := pairs_at I (ts := ts) (ps := ps.map fun p => (V.ref p.2.1, p.2.2)) (by simpa using hl) fun i t p e1 e2 => by
    rw [List.getElem?_map] at e2
    cases z : ps[i]? with
    | none => rw [z] at e2; cases e2
    | some y =>
      rw [z] at e2
      cases e2
      have := ht i t y e1 z
      rw [← L.K] at this
      exact this
  obtain ⟨zs, rfl, px, hzs⟩ := triples hv
  have hzl : zs.length = ps.length := by have := px_len px; simpa using this.symm
  have hit := items_at (h := s.heap) rv (by rw [List.length_map]; omega) hq
  have his : ∀ x ∈ zs, (nestedKind X.prog X.w).is s.heap x.1 x.2.1 := fun x hx => by
    obtain ⟨p, hp, e1, e2⟩ := hzs x hx
    obtain ⟨h1, h2⟩ := hk p hp
    rw [← e1, ← e2]
    exact ⟨nden_is I sm _ (.ref p.2.1) _ (by rw [L.K]; exact h1) rfl, h2⟩
  refine call_dict_pairsH (knd := nestedKind X.prog X.w) (ps := zs) (PairArg.list a its.toArray (fun j => (ts[j]?).getD 0) (zs.map fun z => (Value.ref z.2.1, z.2.2))) (I.ok.hd hc) (by show X.A.units + 1 + 1 + 8 < cLine; omega) ⟨?_, hit⟩ ⟨by rw [List.length_map], fun i key v hr => ?_⟩ (fun h' hk' x hx => ?_) ?_ fun h' tk hD hk' => ?_
  · obtain ⟨o, n, h1, h2, h3, h4⟩ := p
    exact ⟨o, n, h1, h2, h3, h4⟩
  · have hr : (zs.map fun z => (Value.ref z.2.1, z.2.2))[i]? = some (key, v) := hr
    rw [List.getElem?_map] at hr
    cases z : zs[i]? with
    | none => rw [z] at hr; cases hr
    | some y => rw [z] at hr; cases hr; exact ⟨y.1, y.2.1, rfl, rfl⟩
  · exact nestedKind_stays.stays (fun b o _ _ e _ => hk' b o (Nat.ne_of_lt (Heap.lt_size e)) (fun h => nomatch h) e) (his x hx)
  · rw [List.length_map, hzl]; exact Nat.le_trans hz SZ
  · obtain ⟨o', ho', hd'⟩ := dic_of (F := F) L hD (px_puts px .nil) fun x hx => by
      rcases storeds_mem hx with ⟨y, hy, _⟩ | ⟨y, hy, e1, e2⟩
      · exact nomatch hy
      · obtain ⟨p, hp, e3, e4⟩ := hzs y hy
        rw [← e1, ← e2, ← e3, ← e4]; exact hk p hp
    exact ⟨.ref s.heap.objs.size, _, I.laid (t' := tk) (o := knO s.heap.objs.size o') (fun b o e => hk' b o (fun h => nomatch h) e) (Nat.le_refl _) (knO_ok ho'), rfl, q _ o' (I.hok.fresh (Nat.le_refl _)) (big_ne I) hd'⟩
def pairsD : List D → Option (List (NestedKey × V))
  | [] => some []
  | .tup [k, v] :: ds => match D.tkey k, pairsD ds with
    | some key, some r => if v.flat = true then some ((key, v.v) :: r) else none
    | _, _ => none
  | _ => none
def dDictP : List D → Option D
  | [.lst ds] => match pairsD ds with
    | some ps => if ps.length ≤ 1000000 then some (.dic (ps.foldl (fun acc p => dput acc p.1 p.2) [])) else none
    | none => none
  | _ => none
theorem pairsD_ok {C : Ct} {φ : List Addr} {F : Hp} : ∀ {ds : List D} {vs : List V} {ps : List (NestedKey × V)}, pairsD ds = some ps → Dens C φ F ds vs → ∃ (zs : List (NestedKey × Addr × V)) (ts : List Addr), vs = ts.map V.ref ∧ ts.length = zs.length ∧ ps = zs.map (fun z => (z.1, z.2.2)) ∧ (∀ (i : Nat) (t : Addr) (p : NestedKey × Addr × V), ts[i]? = some t → zs[i]? = some p → SqT C.K F t [.ref p.2.1, p.2.2]) ∧ ∀ p ∈ zs, NDen C.K F p.1 (.ref p.2.1) ∧ p.1.depth ≤ 8
  | [], vs, ps, e, h => by
    rw [Dens] at h
    cases e
    exact ⟨[], [], h, rfl, rfl, fun i t p e => by simp at e, fun _ h => nomatch h⟩
  | d :: ds, vs, ps, e, h => by
    unfold pairsD at e
    split at e
    · rename_i q; cases q
    · rename_i k v ds' q
      cases q
      split at e
      · rename_i key r e1 e2
        split at e
        · rename_i hf
          cases e
          rw [Dens] at h
          obtain ⟨u, us, rfl, h1, h2⟩ := h
          rw [Den] at h1
          obtain ⟨t, ws, rfl, h3, h4⟩ := h1
          rw [Dens] at h4
          obtain ⟨k', r1, rfl, h5, h6⟩ := h4
          rw [Dens] at h6
          obtain ⟨v', r2, rfl, h7, h8⟩ := h6
          rw [Dens] at h8
          subst h8
          obtain ⟨b, rfl, h9, h10⟩ := tkey_ok (B := ⟨C, F, φ, F⟩) e1 h5
          obtain ⟨e7, _⟩ := flat_den hf h7
          obtain ⟨zs, ts, rfl, hl, rfl, ht, hk⟩ := pairsD_ok e2 h2
          refine ⟨(key, b, v') :: zs, t :: ts, rfl, by simp [hl], ?_, fun i t' p e3 e4 => ?_, fun p hp => ?_⟩
          · rw [List.map_cons, e7]
          · cases i with
            | zero => simp at e3 e4; subst e3 e4; exact h3
            | succ i => simp at e3 e4; exact ht i t' p e3 e4
          · rcases List.mem_cons.mp hp with rfl | hp
            · exact ⟨h9, h10⟩
            · exact hk p hp
        · cases e
      · cases e
    · cases e
theorem cg_dictP {kvs : List D} {F H : Hp} {φ : List Addr} {ρ : Env} {γ : List D} {σ : St} {ds : List D} {d : D} {vs : List V} {Q : VK} (R : Rel B F φ H ρ γ σ) (p : Pks B ρ σ φ F ds vs) (e : dDictP ds = some d)
    (G : ∀ kvs p o, d = .dic kvs → H p = none → (p == sysModules) = false → DicO B.C F o kvs → Q (.ref p) (upd H p (knO p o))) : rDictP B vs H Q := by
  unfold dDictP at e
  split at e
  · rename_i ds
    split at e
    · rename_i ps e1
      split at e
      · rename_i hz
        cases e
        obtain ⟨v, rfl, h⟩ := p.one
        obtain ⟨a, vs, rfl, h1, h2⟩ := Pk.lst R h
        obtain ⟨zs, ts, rfl, hl, rfl, ht, hk⟩ := pairsD_ok e1 h2
        exact ⟨F, a, zs, ts, rfl, R.c.sub, h1, hl, by simpa using hz, fun i t p e1 e2 => sqT_same R.c.sub (ht i t p e1 e2), hk, fun p o hp hs hd => G _ p o rfl hp hs hd⟩
      · cases e
    · cases e
  · cases e
theorem cd_dictP : CallD B (rDictP B) dDictP := by
  intro F φ H ρ γ σ ds d vs Q R p e G
  refine cg_dictP (kvs := []) R p e fun kvs p o ed hp hs hd => ?_
  subst ed
  exact G.dic R hd hp hs
theorem cf_dictP : CallF B (rDictP B) dDictP := by
  intro F φ H ρ γ σ ds d vs Q R p e G
  refine cg_dictP (kvs := []) R p e fun kvs p o ed hp hs hd => ?_
  subst ed
  exact G.dic R hd hp hs
end
end DL

/-! DLd: == and != of dicts with nested keys, of a list and [] -/
namespace DL
open PySem PySem.Spec PyProof.Rows L2 PySem.W
section
variable {prog : Program} {w : World} {K : Type} [DecidableEq K] {knd : HeapKind prog w K} {A : Around} {E : Value → Shared → Prop} {s : Shared}
/-- the entries of a, looked up in b -/
inductive NHits {K : Type} [DecidableEq K] (A : Around) (s : Shared) (yb : List (K × Addr × Value)) : List (K × Addr × Value) → Bool → Prop
  | nil : NHits A s yb [] true
  | miss {k : K} {a : Addr} {v : Value} {r : List (K × Addr × Value)} : atKey yb k = none → NHits A s yb ((k, a, v) :: r) false
  | hit {k : K} {a b : Addr} {v y : Value} {r : List (K × Addr × Value)} {e c : Bool} : atKey yb k = some (b, y) → SeqAt.EqAt A s v y e → NHits A s yb r c → NHits A s yb ((k, a, v) :: r) (e && c)
theorem NHits.inv {yb : List (K × Addr × Value)} {k : K} {a : Addr} {v : Value} {r : List (K × Addr × Value)} {c : Bool} (h : NHits A s yb ((k, a, v) :: r) c) :
    (atKey yb k = none ∧ c = false) ∨ ∃ b y e c', atKey yb k = some (b, y) ∧ SeqAt.EqAt A s v y e ∧ NHits A s yb r c' ∧ c = (e && c') := by
  cases h with
  | miss hn => exact .inl ⟨hn, rfl⟩
  | hit hy he hr => exact .inr ⟨_, _, _, _, hy, he, hr, rfl⟩
theorem neq_samePairs {nm : String} {a b : Addr} {xa yb : List (K × Addr × Value)} {r : Bool} {Q : Bool → Shared → Prop} (hu : knd.room A) (ha : (a == sysModules) = false) (hb : (b == sysModules) = false)
    (da : s.heap.DictOfH knd a xa) (db : s.heap.DictOfH knd b yb) (hits : xa.length = yb.length → NHits A s yb xa r) (h : Q (xa.length == yb.length && r) s) :
    wpAny (model prog w) A (Builtin.Dict.samePairs nm a b) Q E s := by
  obtain ⟨oa, es, ep, hoa, _, hda, hea, hisa, hna⟩ := da
  obtain ⟨ob, es', ep', hob, _, hdb, heb, hisb, hnb⟩ := db
  have hla : xa.length = es.size := (size_of_entries hea).symm
  have hlb : yb.length = es'.size := (size_of_entries heb).symm
  rw [hla, hlb] at h
  unfold Builtin.Dict.samePairs Builtin.Dict.showsAll
  rw [if_neg (show ¬ (a == sysModules) = true by rw [ha]; exact Bool.false_ne_true), if_neg (show ¬ (b == sysModules) = true by rw [hb]; exact Bool.false_ne_true)]
  refine wpAny_bind (wpAny_pure (wpAny_bind (wpAny_pure ?_)))
  refine wpAny_bind (wpAny_dictEntries hoa hda ?_)
  dsimp only
  refine wpAny_bind (wpAny_dictEntries hob hdb ?_)
  by_cases hsz : es.size = es'.size
  case neg =>
    rw [if_pos (by simpa using hsz)]
    have hbf : (es.size == es'.size) = false := by simpa using hsz
    rw [hbf, Bool.false_and] at h
    exact wpAny_bind (wpAny_rule (wpAny_pure h))
  case pos =>
    have h' : Q r s := by simpa [hsz] using h
    have hits' := hits (by rw [hla, hlb]; exact hsz)
    rw [if_neg (by rw [hsz]; simp)]
    refine wpAny_bind (wpAny_dictEpoch hoa hda ?_)
    refine wpAny_bind ?_
    rw [Std.Legacy.Range.forIn_eq_forIn_range']
    simp only [Std.Legacy.Range.size, Nat.sub_zero, Nat.add_sub_cancel, Nat.div_one]
    refine wpAny_forIn_list _
      (fun rest q s' => s' = s ∧ q = (none, ()) ∧ ∃ i, rest = List.range' i (es.size - i) ∧ i ≤ es.size ∧ NHits A s yb (xa.drop i) r)
      _ ?_ ?_ _ _ ⟨rfl, rfl, 0, by simp, Nat.zero_le _, hits'⟩
    · rintro x rest q s' ⟨rfl, rfl, i, hr, hi, hpre⟩
      have hlt : i < es.size := by
        rcases Nat.lt_or_ge i es.size with h | h
        · exact h
        · rw [Nat.sub_eq_zero_of_le h] at hr; simp at hr
      obtain ⟨rfl, hrest⟩ : x = i ∧ rest = List.range' (i + 1) (es.size - (i + 1)) := by
        have e : es.size - i = (es.size - (i + 1)) + 1 := by omega
        rw [e, List.range'_succ] at hr
        injection hr with h1 h2
        exact ⟨h1, h2⟩
      refine wpAny_bind (wpAny_dictEntries hoa hda ?_)
      have hlt' : x < xa.length := by rw [hla]; exact hlt
      have hent := entry_at hea x
      rw [List.getElem?_eq_getElem hlt'] at hent
      rw [hent]
      obtain ⟨k, c, v, hkv⟩ : ∃ k c v, xa[x] = (k, c, v) := ⟨_, _, _, rfl⟩
      have hdrop : xa.drop x = (k, c, v) :: xa.drop (x + 1) := by rw [← hkv]; exact List.drop_eq_getElem_cons hlt'
      rw [hdrop] at hpre
      rw [hkv]
      have hkey := hisa xa[x] (List.getElem_mem hlt')
      rw [hkv] at hkey
      show wpAny _ _ (holding [Value.ref c, v] _ >>= _) _ _ _
      refine wpAny_bind (wpAny_holding (wpAny_bind (wpAny_dictFind_heap hu hkey hob hdb heb hisb hnb (fun hno => ?_) fun j p hj => ?_)))
      · have hn := atKey_none_of_get hno
        rcases hpre.inv with ⟨_, er⟩ | ⟨_, y, _, _, hy, _⟩
        · rw [er] at h'
          refine wpAny_pure ?_
          show wpAny _ _ (if (!false) = true then _ else _) _ _ _
          rw [if_pos (by decide)]
          exact wpAny_pure (wpAny_pure h')
        · rw [hn] at hy; exact nomatch hy
      · have hv' := atKey_of_get hnb hj
        have hentb := entry_at heb j
        rw [hj] at hentb
        refine wpAny_bind (wpAny_dictEntries hob hdb ?_)
        rw [hentb]
        rcases hpre.inv with ⟨hn, _⟩ | ⟨b', y, e, c', hy, he, hrr, er⟩
        · rw [hv'] at hn; exact nomatch hn
        · have ey : p = (b', y) := Option.some.inj (hv'.symm.trans hy)
          subst ey
          refine wpAny_holding (he prog w _ _ ?_)
          cases e with
          | false =>
            rw [er, Bool.false_and] at h'
            show wpAny _ _ (if (!false) = true then _ else _) _ _ _
            rw [if_pos (by decide)]
            exact wpAny_pure (wpAny_pure h')
          | true =>
            rw [Bool.true_and] at er
            rw [← er] at hrr
            show wpAny _ _ (if (!true) = true then _ else _) _ _ _
            rw [if_neg (by decide)]
            refine wpAny_bind (wpAny_dictEpoch hoa hda ?_)
            rw [if_neg (by simp)]
            exact wpAny_pure ⟨rfl, rfl, x + 1, hrest, hlt, hrr⟩
    · rintro q s' ⟨rfl, rfl, i, hr, hi, hpre⟩
      have hin : i = es.size := by
        rcases Nat.lt_or_ge i es.size with h | h
        · have e : es.size - i = (es.size - (i + 1)) + 1 := by omega
          rw [e, List.range'_succ] at hr; exact nomatch hr
        · exact Nat.le_antisymm hi h
      refine wpAny_pure ?_
      rw [hin, ← hla, List.drop_length] at hpre
      cases hpre
      exact h'
theorem neq_eq {a b : Addr} {xa yb : List (K × Addr × Value)} {r : Bool} {Q : Value → Shared → Prop} (hr : knd.room A.in1) (ha : (a == sysModules) = false) (hb : (b == sysModules) = false)
    (da : s.heap.DictOfH knd a xa) (db : s.heap.DictOfH knd b yb) (hu : A.units < cLine) (hits : xa.length = yb.length → NHits A.in1 s yb xa r) (h : Q (.bool (xa.length == yb.length && r)) s) :
    wpAny (model prog w) A (compareOp .Eq (.ref a) (.ref b)) Q E s := by
  refine wpAny_richCompare_same_room (op := .Eq) da.typeIs db.typeIs PySem.F.slot_dict_eq (wpAny_call_entry PySem.F.slot_dict_eq da.typeIs PySem.F.entry_dict_eq ?_ (PySem.F.args_dict_eq_2 _ _)) hu
  show wpAny _ _ (Builtin.Dict.dictSlotArgs "__eq__" ⟨[.ref a, .ref b], []⟩ >>= _) _ _ s
  refine wpAny_bind ?_
  unfold Builtin.Dict.dictSlotArgs
  refine wpAny_bind (wpAny_notOrdered_dict da.typeIs ?_)
  show wpAny _ _ (pure (Value.ref a, Value.ref b)) _ _ s
  refine wpAny_pure ?_
  refine wpAny_bind (wpAny_isInstance (T := "dict") db.typeIs PySem.F.sub_dict_dict ?_)
  simp only [Bool.not_true, Bool.false_eq_true, if_false]
  refine wpAny_bind (wpAny_pure (wpAny_bind (wpAny_pure ?_)))
  refine wpAny_bind (neq_samePairs hr ha hb da db hits ?_)
  refine wpAny_pure ⟨_, rfl, ?_, ?_⟩
  · exact fun x => nomatch x
  · simpa using h
theorem neq_ne {a b : Addr} {xa yb : List (K × Addr × Value)} {r : Bool} {Q : Value → Shared → Prop} (hr : knd.room A.in1) (ha : (a == sysModules) = false) (hb : (b == sysModules) = false)
    (da : s.heap.DictOfH knd a xa) (db : s.heap.DictOfH knd b yb) (hu : A.units < cLine) (hits : xa.length = yb.length → NHits A.in1 s yb xa r) (h : Q (.bool (!(xa.length == yb.length && r))) s) :
    wpAny (model prog w) A (compareOp .NotEq (.ref a) (.ref b)) Q E s := by
  refine wpAny_richCompare_same_room (op := .NotEq) da.typeIs db.typeIs PySem.F.slot_dict_ne (wpAny_call_entry PySem.F.slot_dict_ne da.typeIs PySem.F.entry_dict_ne ?_ (PySem.F.args_dict_ne_2 _ _)) hu
  show wpAny _ _ (Builtin.Dict.dictSlotArgs "__ne__" ⟨[.ref a, .ref b], []⟩ >>= _) _ _ s
  refine wpAny_bind ?_
  unfold Builtin.Dict.dictSlotArgs
  refine wpAny_bind (wpAny_notOrdered_dict da.typeIs ?_)
  show wpAny _ _ (pure (Value.ref a, Value.ref b)) _ _ s
  refine wpAny_pure ?_
  refine wpAny_bind (wpAny_isInstance (T := "dict") db.typeIs PySem.F.sub_dict_dict ?_)
  simp only [Bool.not_true, Bool.false_eq_true, if_false]
  refine wpAny_bind (wpAny_pure (wpAny_bind (wpAny_pure ?_)))
  refine wpAny_bind (neq_samePairs hr ha hb da db hits ?_)
  refine wpAny_pure ⟨_, rfl, ?_, ?_⟩
  · exact fun x => nomatch x
  · simpa using h
end
def eqV : V → V → Bool
  | .int i, .int j => i == j
  | _, _ => false
def intV : V → Bool
  | .int _ => true
  | _ => false
def eqDic (ka kb : List (NestedKey × V)) : Bool := ka.length == kb.length && ka.all fun p => match dget kb p.1 with
  | some v => eqV p.2 v
  | none => false
def dEqN : D → D → Option Bool
  | .dic ka, .dic kb => if ((ka.all fun p => intV p.2) && (kb.all fun p => intV p.2)) = true then some (eqDic ka kb) else none
  | .lst (x :: xs), .lst [] => some false
  | a, b => dEq a b
def dNeN (a b : D) : Option Bool := (dEqN a b).map not
section
variable {X : Cx} {B : Fx} {W : WX} {a b c : Expr} {fa fb fc : ESem} {pos : Pos}
theorem eqAt_int {A : Around} {s : Shared} {i j : Int} {u v : Value} (h : RelV (.int i) u) (h' : RelV (.int j) v) : SeqAt.EqAt A s u v (i == j) := by
  obtain ⟨t, rfl⟩ := h
  obtain ⟨t', rfl⟩ := h'
  have := keq_flat (A := A) (s := s) (v := .int i t) (y := .int j t') (d := .int i) (e := .int j) (fun h => .int i t) (fun h => .int j t')
  simpa [PyData.eqv] using this
theorem dget_int {kb : List (NestedKey × V)} (h : (kb.all fun p => intV p.2) = true) {k : NestedKey} {v : V} (e : dget kb k = some v) : intV v = true := by
  unfold dget at e
  cases q : kb.find? fun p => decide (p.1 = k) with
  | none => rw [q] at e; cases e
  | some p =>
    rw [q] at e
    cases e
    exact List.all_eq_true.mp h p (List.mem_of_find?_eq_some q)
theorem hits_of {A : Around} {s : Shared} {kb : List (NestedKey × V)} {yb : List (NestedKey × Addr × Value)} (py : PX kb yb) (hib : (kb.all fun p => intV p.2) = true) : ∀ {ka : List (NestedKey × V)} {xa : List (NestedKey × Addr × Value)}, PX ka xa → (ka.all fun p => intV p.2) = true → NHits A s yb xa (ka.all fun p => match dget kb p.1 with
  | some v => eqV p.2 v
  | none => false) := by
  intro ka xa h
  induction h with
  | nil => intro _; exact .nil
  | @cons p q ps qs r _ ih =>
    intro hi
    rw [List.all_cons, Bool.and_eq_true] at hi
    have ih := ih hi.2
    obtain ⟨k, v⟩ := p
    obtain ⟨k', c, u⟩ := q
    obtain ⟨r1, r2⟩ := r
    simp only at r1 r2
    subst r1
    rw [List.all_cons]
    cases e : dget kb k with
    | none =>
      simp only [e, Bool.false_and]
      exact .miss (px_none py e)
    | some v' =>
      obtain ⟨⟨c', u'⟩, h1, h2⟩ := px_get py e
      have hv' := dget_int hib e
      have hv := hi.1
      cases v with
      | int i =>
        cases v' with
        | int j =>
          simp only [e, eqV]
          exact .hit h1 (eqAt_int r2 h2) ih
        | _ => cases hv'
      | _ => cases hv
def rDicC (B : Fx) (neg : Bool) : R2 := fun x y H Q => ∃ F a b oa ob ka kb, x = .ref a ∧ y = .ref b ∧ Same F H ∧ (a == sysModules) = false ∧ (b == sysModules) = false ∧ H a = some (knO a oa) ∧ H b = some (knO b ob) ∧ DicO B.C F oa ka ∧ DicO B.C F ob kb ∧ (ka.all fun p => intV p.2) = true ∧ (kb.all fun p => intV p.2) = true ∧ Q (.bl (if neg = true then !(eqDic ka kb) else eqDic ka kb)) H
theorem op_eqN (L : Lk X B) (hu : X.A.units + 64 < cLine) : OpR X (compareOp .Eq) (rDicC B false) := by
  intro pins s σ H x y v u Q I rx ry h
  obtain ⟨F, a, b, oa, ob, ka, kb, rfl, rfl, sm, ha0, hb0, ha, hb, da, db, ia, ib, q⟩ := h
  obtain rfl : v = Value.ref a := rx
  obtain rfl : u = Value.ref b := ry
  obtain ⟨xa, hA, pxa, _⟩ := dic_at L I sm ha da
  obtain ⟨xb, hB, pxb, _⟩ := dic_at L I sm hb db
  refine neq_eq (knd := nestedKind X.prog X.w) (by show X.A.units + 1 + 8 < cLine; omega) ha0 hb0 hA hB (by omega) (fun _ => hits_of pxb ib pxa ia) ⟨.bl (eqDic ka kb), H, I, ?_, q⟩
  rw [← px_len pxa, ← px_len pxb]; rfl
theorem op_neN (L : Lk X B) (hu : X.A.units + 64 < cLine) : OpR X (compareOp .NotEq) (rDicC B true) := by
  intro pins s σ H x y v u Q I rx ry h
  obtain ⟨F, a, b, oa, ob, ka, kb, rfl, rfl, sm, ha0, hb0, ha, hb, da, db, ia, ib, q⟩ := h
  obtain rfl : v = Value.ref a := rx
  obtain rfl : u = Value.ref b := ry
  obtain ⟨xa, hA, pxa, _⟩ := dic_at L I sm ha da
  obtain ⟨xb, hB, pxb, _⟩ := dic_at L I sm hb db
  refine neq_ne (knd := nestedKind X.prog X.w) (by show X.A.units + 1 + 8 < cLine; omega) ha0 hb0 hA hB (by omega) (fun _ => hits_of pxb ib pxa ia) ⟨.bl (!(eqDic ka kb)), H, I, ?_, q⟩
  rw [← px_len pxa, ← px_len pxb]; rfl
def rNilC (K : PySem.W.Frag) (neg : Bool) : R2 := fun x y H Q => ∃ a b z zs, x = .ref a ∧ y = .ref b ∧ SqL K H a (z :: zs) ∧ SqL K H b [] ∧ Q (.bl neg) H
theorem op_eqNil (hu : X.A.units + 64 < cLine) : OpR X (compareOp .Eq) (rNilC X.K false) := by
  intro pins s σ H x y v u Q I rx ry h
  obtain ⟨a, b, z, zs, rfl, rfl, ha, hb, q⟩ := h
  obtain rfl : v = Value.ref a := rx
  obtain rfl : u = Value.ref b := ry
  obtain ⟨its, r1, p1, _⟩ := I.list ha
  obtain ⟨its2, r2, p2, _⟩ := I.list hb
  have e1 := r1.length
  have e2 := r2.length
  refine SeqAt.RcAt.lists_lengths p1.isList p2.isList ?_ (by omega) X.prog X.w _ _ ⟨.bl false, H, I, rfl, q⟩
  simp at e1 e2 ⊢
  rw [← e1, ← e2]
  simp
theorem op_neNil (hu : X.A.units + 64 < cLine) : OpR X (compareOp .NotEq) (rNilC X.K true) := by
  intro pins s σ H x y v u Q I rx ry h
  obtain ⟨a, b, z, zs, rfl, rfl, ha, hb, q⟩ := h
  obtain rfl : v = Value.ref a := rx
  obtain rfl : u = Value.ref b := ry
  obtain ⟨its, r1, p1, _⟩ := I.list ha
  obtain ⟨its2, r2, p2, _⟩ := I.list hb
  have e1 := r1.length
  have e2 := r2.length
  refine SeqAt.RcNeAt.lists_lengths p1.isList p2.isList ?_ (by omega) X.prog X.w _ _ ⟨.bl true, H, I, rfl, q⟩
  simp at e1 e2 ⊢
  rw [← e1, ← e2]
  simp
def rOr3 (r1 r2 r3 : R2) : R2 := fun x y H Q => r1 x y H Q ∨ r2 x y H Q ∨ r3 x y H Q
theorem op_or3 {f : Value → Value → Sem Value} {r1 r2 r3 : R2} (h1 : OpR X f r1) (h2 : OpR X f r2) (h3 : OpR X f r3) : OpR X f (rOr3 r1 r2 r3) := by
  intro pins s σ H x y v u Q I rx ry h
  rcases h with h | h | h
  · exact h1 pins s σ H x y v u Q I rx ry h
  · exact h2 pins s σ H x y v u Q I rx ry h
  · exact h3 pins s σ H x y v u Q I rx ry h
theorem opb_gen (hK : X.K = B.C.K) (neg : Bool) (r : R2) (hr : ∀ (F : Hp) (φ : List Addr) (H : Hp) (ρ : Env) (γ : List D) (σ : St) (a b : D) (k : Bool) (x y : V) (Q : VK), Rel B F φ H ρ γ σ → Pk B ρ σ φ F a x → Pk B ρ σ φ F b y → dEq a b = some k → Q (.bl (if neg = true then !k else k)) H → r x y H Q) :
    ∀ (F : Hp) (φ : List Addr) (H : Hp) (ρ : Env) (γ : List D) (σ : St) (a b : D) (k : Bool) (x y : V) (Q : VK), Rel B F φ H ρ γ σ → Pk B ρ σ φ F a x → Pk B ρ σ φ F b y → dEqN a b = some k → Q (.bl (if neg = true then !k else k)) H → rOr3 r (rDicC B neg) (rNilC X.K neg) x y H Q := by
  intro F φ H ρ γ σ a b k x y Q R p q e G
  unfold dEqN at e
  split at e
  · rename_i ka kb
    split at e
    · rename_i hc
      cases e
      rw [Bool.and_eq_true] at hc
      obtain ⟨a, oa, rfl, a0, a1, a2⟩ := Pk.dic R p
      obtain ⟨b, ob, rfl, b0, b1, b2⟩ := Pk.dic R q
      exact .inr (.inl ⟨F, a, b, oa, ob, ka, kb, rfl, rfl, R.c.sub, a0, b0, a1, b1, a2, b2, hc.1, hc.2, G⟩)
    · cases e
  · rename_i z zs
    cases e
    obtain ⟨a, vs, rfl, h1, h2⟩ := Pk.lst R p
    obtain ⟨b, us, rfl, h3, h4⟩ := Pk.lst R q
    rw [Dens] at h4
    subst h4
    rw [Dens] at h2
    obtain ⟨v, r', rfl, _, _⟩ := h2
    refine .inr (.inr ⟨a, b, v, r', rfl, rfl, .inl (.inl h1), .inl (.inl h3), ?_⟩)
    cases neg <;> exact G
  · exact .inl (hr F φ H ρ γ σ a b k x y Q R p q e G)
theorem opb_eqN (hK : X.K = B.C.K) : OpB B (rOr3 (rEqD X.K) (rDicC B false) (rNilC X.K false)) dEqN := fun F φ H ρ γ σ a b k x y Q R p q e G =>
  opb_gen hK false _ (fun F φ H ρ γ σ a b k x y Q R p q e G => opb_eq hK F φ H ρ γ σ a b k x y Q R p q e G) F φ H ρ γ σ a b k x y Q R p q e G
theorem opb_neN (hK : X.K = B.C.K) : OpB B (rOr3 (rNeD X.K) (rDicC B true) (rNilC X.K true)) dNeN := by
  intro F φ H ρ γ σ a b k x y Q R p q e G
  unfold dNeN at e
  cases z : dEqN a b with
  | none => rw [z] at e; cases e
  | some k' =>
    rw [z] at e
    cases e
    exact opb_gen hK true _ (fun F φ H ρ γ σ a b k x y Q R p q e G => opb_ne hK F φ H ρ γ σ a b (!k) x y Q R p q (by rw [dNe, e]; rfl) G) F φ H ρ γ σ a b k' x y Q R p q z G
theorem de_eqN (L : Lk X B) (hu : X.A.units + 64 < cLine) (ha : PE X a (tP B W fa)) (hb : PE X b (tP B W fb)) : PE X (.Compare a [.Eq] [b] pos) (tE B W (eCmp dEqN fa fb)) := de_cmp (op_or3 (op_eqD hu) (op_eqN L hu) (op_eqNil hu)) (opb_eqN L.K) ha hb (nomark _)
theorem dt_eqN (L : Lk X B) (hu : X.A.units + 64 < cLine) (ha : PE X a (tP B W fa)) (hb : PE X b (tP B W fb)) : PT X (.Compare a [.Eq] [b] pos) (tT B W (cCmp dEqN fa fb)) := dt_cmp (op_or3 (op_eqD hu) (op_eqN L hu) (op_eqNil hu)) (opb_eqN L.K) ha hb (nomark _)
theorem de_neN (L : Lk X B) (hu : X.A.units + 64 < cLine) (ha : PE X a (tP B W fa)) (hb : PE X b (tP B W fb)) : PE X (.Compare a [.NotEq] [b] pos) (tE B W (eCmp dNeN fa fb)) := de_cmp (op_or3 (op_neD hu) (op_neN L hu) (op_neNil hu)) (opb_neN L.K) ha hb (nomark _)
theorem dt_neN (L : Lk X B) (hu : X.A.units + 64 < cLine) (ha : PE X a (tP B W fa)) (hb : PE X b (tP B W fb)) : PT X (.Compare a [.NotEq] [b] pos) (tT B W (cCmp dNeN fa fb)) := dt_cmp (op_or3 (op_neD hu) (op_neN L hu) (op_neNil hu)) (opb_neN L.K) ha hb (nomark _)
end
end DL

/-! DLe: dicts with ints and texts as keys; sorted -/
namespace DL
open PySem PySem.Spec PyProof.Rows L2
abbrev FKey := Int ⊕ Str
def D.fkey : D → Option FKey
  | .int i => some (.inl i)
  | .str x => some (.inr x)
  | _ => none
def ofF : FKey → D
  | .inl i => .int i
  | .inr x => .str x
theorem fkey_den {C : Ct} {φ : List Addr} {F : Hp} {d : D} {k : FKey} {v : V} (e : d.fkey = some k) (h : Den C φ F d v) : v = kV k := by
  cases d with
  | int i => cases e; rw [Den] at h; exact h
  | str i => cases e; rw [Den] at h; exact h
  | _ => cases e
theorem ofF_den {C : Ct} {φ : List Addr} {F : Hp} (k : FKey) : Den C φ F (ofF k) (kV k) := by
  cases k with
  | inl i => rw [ofF, Den]; rfl
  | inr i => rw [ofF, Den]; rfl
def kGet : List FKey → List D → FKey → Option D
  | k :: ks, d :: ds, j => if k = j then some d else kGet ks ds j
  | _, _, _ => none
def kSet : List FKey → List D → FKey → D → List D
  | k :: ks, d :: ds, j, x => (if k = j then x else d) :: kSet ks ds j x
  | _, ds, _, _ => ds
def kHas (ks : List FKey) (j : FKey) : Bool := ks.any fun k => decide (k = j)
def kKeys (ks : List FKey) (j : FKey) : List FKey := if kHas ks j = true then ks else ks ++ [j]
def kVals (ks : List FKey) (ds : List D) (j : FKey) (x : D) : List D := if kHas ks j = true then kSet ks ds j x else ds ++ [x]
theorem kGet_ok {C : Ct} {φ : List Addr} {F : Hp} {j : FKey} : ∀ {ks : List FKey} {ds : List D} {vs : List V}, ks.length = vs.length → Dens C φ F ds vs → (match kGet ks ds j with
  | some d => ∃ v, valV (ks.zip vs) j = some v ∧ Den C φ F d v
  | none => valV (ks.zip vs) j = none)
  | [], ds, vs, hl, h => by
    cases vs with
    | cons _ _ => simp at hl
    | nil => simp only [kGet]; rfl
  | k :: ks, ds, vs, hl, h => by
    cases vs with
    | nil => simp at hl
    | cons v vs =>
      cases ds with
      | nil => rw [Dens] at h; cases h
      | cons d ds =>
        rw [Dens] at h
        obtain ⟨v', r, e, h1, h2⟩ := h
        cases e
        rw [List.zip_cons_cons]
        simp only [kGet]
        by_cases hk : k = j
        · rw [if_pos hk]; exact ⟨v, valV_pos hk, h1⟩
        · rw [if_neg hk, valV_neg (p := (k, v)) hk]
          exact kGet_ok (by simpa using hl) h2
theorem zip_any (j : FKey) : ∀ {ks : List FKey} {vs : List V}, ks.length = vs.length → ((ks.zip vs).any fun kv => decide (kv.1 = j)) = kHas ks j
  | [], [], _ => rfl
  | k :: ks, v :: vs, h => by
    rw [List.zip_cons_cons, List.any_cons, zip_any j (by simpa using h)]
    rfl
  | [], _ :: _, h => by simp at h
  | _ :: _, [], h => by simp at h
theorem zip_set {C : Ct} {φ : List Addr} {F : Hp} {j : FKey} {x : D} {u : V} (hx : Den C φ F x u) : ∀ {ks : List FKey} {ds : List D} {vs : List V}, ks.length = vs.length → Dens C φ F ds vs → ∃ vs', ((ks.zip vs).map fun kv => if kv.1 = j then (kv.1, u) else kv) = ks.zip vs' ∧ ks.length = vs'.length ∧ Dens C φ F (kSet ks ds j x) vs'
  | [], ds, [], _, h => ⟨[], rfl, rfl, by simpa [kSet] using h⟩
  | k :: ks, ds, v :: vs, hl, h => by
    cases ds with
    | nil => rw [Dens] at h; cases h
    | cons d ds =>
      rw [Dens] at h
      obtain ⟨v', r, e, h1, h2⟩ := h
      cases e
      obtain ⟨vs', e1, e2, e3⟩ := zip_set hx (ks := ks) (ds := ds) (vs := vs) (by simpa using hl) h2
      refine ⟨(if k = j then u else v) :: vs', ?_, by simp [e2], ?_⟩
      · rw [List.zip_cons_cons, List.map_cons, e1, List.zip_cons_cons]
        by_cases hk : k = j <;> simp [hk]
      · rw [kSet]
        refine .cons ?_ e3
        by_cases hk : k = j
        · rw [if_pos hk, if_pos hk]; exact hx
        · rw [if_neg hk, if_neg hk]; exact h1
  | [], _, _ :: _, h, _ => by simp at h
  | _ :: _, _, [], h, _ => by simp at h
theorem has_mem {ks : List FKey} {j : FKey} : kHas ks j = true ↔ j ∈ ks := by
  unfold kHas
  rw [List.any_eq_true]
  exact ⟨fun ⟨k, h, e⟩ => by rw [← of_decide_eq_true e]; exact h, fun h => ⟨j, h, by simp⟩⟩
theorem putK_ok {C : Ct} {φ : List Addr} {F : Hp} {j : FKey} {x : D} {u : V} (hx : Den C φ F x u) {ks : List FKey} {ds : List D} {vs : List V} (hl : ks.length = vs.length) (hn : ks.Nodup) (h : Dens C φ F ds vs) :
    ∃ vs', putK (ks.zip vs) j u = (kKeys ks j).zip vs' ∧ (kKeys ks j).length = vs'.length ∧ (kKeys ks j).Nodup ∧ Dens C φ F (kVals ks ds j x) vs' := by
  unfold putK kKeys kVals
  rw [zip_any j hl]
  by_cases hk : kHas ks j = true
  · rw [if_pos hk, if_pos hk, if_pos hk]
    obtain ⟨vs', e1, e2, e3⟩ := zip_set hx hl h (j := j)
    exact ⟨vs', e1, e2, hn, e3⟩
  · rw [if_neg hk, if_neg hk, if_neg hk]
    refine ⟨vs ++ [u], ?_, by simp [hl], ?_, h.app (.one hx)⟩
    · rw [List.zip_append hl]; rfl
    · rw [List.nodup_append]
      refine ⟨hn, by simp, fun a ha b hb => ?_⟩
      have : b = j := by simpa using hb
      subst this
      intro e
      subst e
      exact hk (has_mem.mpr ha)
section
variable {X : Cx} {B : Fx} {W : WX} {F H : Hp} {σ : St} {o e f i : Expr} {fo fk fx : ESem} {apos cpos pos pos' : Pos}
theorem Pk.dik {φ : List Addr} {ρ : Env} {γ : List D} {v : V} {ks : List FKey} {ds : List D} (R : Rel B F φ H ρ γ σ) (h : Pk B ρ σ φ F (.dik ks ds) v) : ∃ a vs, v = .ref a ∧ H a = some (.dK (ks.zip vs)) ∧ ks.length = vs.length ∧ ks.Nodup ∧ Dens B.C φ F ds vs := by
  rcases h with h | ⟨j, e, h⟩
  · rw [Den] at h
    obtain ⟨a, vs, rfl, h1, h2, h3, h4⟩ := h
    exact ⟨a, vs, rfl, R.c.sub _ _ h1, h2, h3, h4⟩
  · rcases R.fz j _ e with ⟨u, _, q⟩ | ⟨d', a, q, h2, _, ow⟩
    · rw [Den] at q; exact q.elim
    · cases q
      obtain ⟨vs, h3, h4, h5, h6⟩ := ow
      rw [h] at h2
      have : v = .ref a := by injection h2 with h2; injection h2
      exact ⟨a, vs, this, h3, h4, h5, h6⟩
/-! ### d.get(k, x), d[k], d[k] = v -/
def eGetK (fo fk fx : ESem) : ESem := fun ρ γ => (fo ρ γ).bind fun d γ => match d with
  | .dik ks ds => (fk ρ γ).bind fun k γ => (fx ρ γ).bind fun x γ => (match D.fkey k with
    | some key => .ok ((kGet ks ds key).getD x) γ
    | none => .stuck)
  | _ => .stuck
theorem de_getK (hu : X.A.units + 64 < cLine) (ho : PE X o (tP B W fo)) (he : PE X e (tE B W fk)) (hf : PE X f (tE B W fx)) (m : M2 X o "get" apos e f cpos) : PE X (.Call (.Attribute o "get" apos) [e, f] [] cpos) (tE B W (eGetK fo fk fx)) := PE.imp (pe_dget2 (by omega) ho he hf m) fun σ H Q ⟨F, φ, ρ, γ, R, P⟩ => by
  refine run1 R P fun d γ1 v F1 φ1 H1 x1 R1 d1 P1 => ?_
  cases d with
  | dik ks ds =>
    obtain ⟨a, vs, rfl, h1, _⟩ := Pk.dik R1 d1
    refine ⟨a, rfl, .inl ⟨_, .inl h1⟩, ?_⟩
    refine run1 R1 P1 fun k γ2 y F2 φ2 H2 x2 R2 d2 P2 => ?_
    refine run1 R2 P2 fun x γ3 z F3 φ3 H3 x3 R3 d3 P3 => ?_
    obtain ⟨a', vs3, e3, h13, hl, hn, hd⟩ := Pk.dik R3 (Pk.up x3.f x3.p (Pk.up x2.f x2.p d1))
    cases e3
    cases q : D.fkey k with
    | none => rw [q] at P3; exact P3.elim
    | some key =>
      rw [q] at P3
      dsimp only at P3
      have ey := fkey_den q d2
      subst ey
      refine ⟨_, .k h13, ?_⟩
      have z3 := kGet_ok (j := key) hl hd
      cases g : kGet ks ds key with
      | none =>
        rw [g] at P3 z3
        rw [z3]
        exact P3 z F3 φ3 H3 (Ext.refl _ _ _) R3 d3
      | some d =>
        rw [g] at P3 z3
        obtain ⟨v, e1, e2⟩ := z3
        rw [e1]
        exact P3 v F3 φ3 H3 (Ext.refl _ _ _) R3 e2
  | _ => exact P1.elim
def eItemK (fo fk : ESem) : ESem := fun ρ γ => (fo ρ γ).bind fun d γ => (fk ρ γ).bind fun k γ => match d with
  | .dik ks ds => (match D.fkey k with
    | some key => ofOpt (kGet ks ds key) γ
    | none => .stuck)
  | _ => .stuck
theorem de_itemK (hu : X.A.units + 64 < cLine) (ho : PE X o (tP B W fo)) (hi : PE X i (tE B W fk)) (hs : NoSl i := by exact fun _ _ => rfl) : PE X (.Subscript o i pos) (tE B W (eItemK fo fk)) := PE.imp (pe_dget (by omega) ho hi hs) fun σ H Q ⟨F, φ, ρ, γ, R, P⟩ => by
  refine run1 R P fun d γ1 v F1 φ1 H1 x1 R1 d1 P1 => ?_
  refine run1 R1 P1 fun k γ2 y F2 φ2 H2 x2 R2 d2 P2 => ?_
  cases d with
  | dik ks ds =>
    obtain ⟨a, vs, rfl, h1, hl, hn, hd⟩ := Pk.dik R2 (Pk.up x2.f x2.p d1)
    cases q : D.fkey k with
    | none => rw [q] at P2; exact P2.elim
    | some key =>
      rw [q] at P2
      dsimp only at P2
      have ey := fkey_den q d2
      subst ey
      have z3 := kGet_ok (j := key) hl hd
      cases g : kGet ks ds key with
      | none => rw [g] at P2; exact P2.elim
      | some d =>
        rw [g] at P2 z3
        obtain ⟨v, e1, e2⟩ := z3
        exact ⟨a, v, rfl, .inl ⟨_, key, .inl h1, rfl, e1.symm⟩, P2 v F2 φ2 H2 (Ext.refl _ _ _) R2 e2⟩
  | _ => exact P2.elim
def sPutK (i : Nat) (fk fv : ESem) : SSem := fun ρ γ => toOut (fv ρ γ) ρ fun v γ => match ρ[i]? with
  | some (some (.mine (.dik ks ds))) => toOut (fk ρ γ) ρ fun k γ => (match D.fkey k with
    | some key => if ks.length < 1000000 then .nx (ρ.set i (some (.mine (.dik (kKeys ks key) (kVals ks ds key v))))) γ else .stuck
    | none => .stuck)
  | _ => .stuck
theorem ds_putK {i : Nat} {x : Str} {p1 : Pos} {ke ve : Expr} {fv : ESem} (hu : X.A.units + 64 < cLine) (hN : X.N[i]? = some x) (hv : Vis X.env.scope x) (hk : PE X ke (tE B W fk)) (hval : PE X ve (tE B W fv)) (hd : (x == ("__debug__" : Str)) = false := by decide) (hcd : (x == ("__classdict__" : Str)) = false := by decide)
    (hs : swapsWith ve (some (.Subscript (.Name x p1) ke pos')) pos.line X.env = pure false := by rfl) :
    PS X (.Assign [.Subscript (.Name x p1) ke pos'] ve pos) (tS B W (sPutK i fk fv)) := PS.imp (ps_dput (by omega) (pe_var (i := i) hN hv hd hcd) hk hval hs) fun E σ H ⟨F, φ, ρ, γ, R, P⟩ => by
  refine run1S R P fun v γ1 u F1 φ1 H1 x1 R1 d1 P1 => ?_
  have d1 : Den B.C φ1 F1 v u := d1
  split at P1
  · rename_i ks ds e0
    rcases R1.fz i _ e0 with ⟨z, _, q⟩ | ⟨d', a, q, h2, al, ow⟩
    · rw [Den] at q; exact q.elim
    cases q
    refine ⟨.ref a, h2, ?_⟩
    refine run1S R1 P1 fun k γ2 y F2 φ2 H2 x2 R2 d2 P2 => ?_
    cases q : D.fkey k with
    | none => rw [q] at P2; exact P2.elim
    | some key =>
      rw [q] at P2
      simp only at P2
      by_cases hc : ks.length < 1000000
      · rw [if_pos hc] at P2
        have ey := fkey_den q d2
        subst ey
        obtain ⟨a', vs, e3, h13, hl, hn, hd⟩ := Pk.dik R2 (.inr ⟨i, e0, h2⟩)
        cases e3
        obtain ⟨vs', e1, e2, e3, e4⟩ := putK_ok (j := key) (Den.same x2.f x2.p _ _ d1) hl hn hd
        have hz : (ks.zip vs).length < sizeLine := by rw [List.length_zip, ← hl, Nat.min_self]; exact Nat.lt_of_lt_of_le hc SZ
        refine ⟨a, _, rfl, .k h13 hz, ?_⟩
        rw [e1]
        exact P2 σ F2 φ2 _ (same_refl _) (List.prefix_refl _) (R2.write e0 h2 ⟨vs', upd_same, e2, e3, e4⟩)
      · rw [if_neg hc] at P2; exact P2.elim
  · exact P1.elim
theorem Gv.dik {φ : List Addr} {ρ : Env} {γ : List D} {ks : List FKey} {ds : List D} {vs : List V} {Q : VK} {p : Addr} (g : Gv B F φ H ρ γ σ (.dik ks ds) Q) (R : Rel B F φ H ρ γ σ) (hl : ks.length = vs.length) (hn : ks.Nodup) (hd : Dens B.C φ F ds vs) (hp : H p = none) : Q (.ref p) (upd H p (.dK (ks.zip vs))) := by
  have hF : F p = none := R.fnone hp
  refine g _ (upd F p (.dK (ks.zip vs))) φ _ (ext_lay R.c.sub hp) (R.lay hp) ?_
  rw [Den]
  exact ⟨p, vs, rfl, upd_same, hl, hn, Dens.same (same_upd hF) (List.prefix_refl _) _ _ hd⟩
theorem Gf.dik {φ : List Addr} {ρ : Env} {γ : List D} {ks : List FKey} {ds : List D} {vs : List V} {Q : VK} {p : Addr} (g : Gf B F φ H ρ γ σ (.dik ks ds) Q) (R : Rel B F φ H ρ γ σ) (hl : ks.length = vs.length) (hn : ks.Nodup) (hd : Dens B.C φ F ds vs) (hp : H p = none) : Q (.ref p) (upd H p (.dK (ks.zip vs))) := by
  obtain ⟨x2, R2, al, nj⟩ := R.layH (o := .dK (ks.zip vs)) hp
  exact g _ F φ _ x2 R2 ⟨p, rfl, al, ⟨vs, upd_same, hl, hn, hd⟩, nj, hp⟩
/-! ### dict(pairs), keys ints and texts -/
def rDictK (K : PySem.W.Frag) : List V → Hp → VK → Prop := fun xs H Q => ∃ (a : Addr) (o : Obj) (ts : List Addr) (kvs : List (FKey × V)), xs = [.ref a] ∧ H a = some (.frz o (.tup (ts.map V.ref))) ∧ o.dict = none ∧ ts.length = kvs.length ∧ (∀ (i : Nat) (t : Addr) (p : FKey × V), ts[i]? = some t → kvs[i]? = some p → SqT K H t [kV p.1, p.2]) ∧ kvs.length ≤ 1000000 ∧
    ∀ p, H p = none → Q (.ref p) (upd H p (.dK (mergeK [] kvs)))
theorem carries_at {P : Program} {w : World} : ∀ {ws : List (Value × Value)} {rs : List (FKey × Value)}, Carries (mixKind P w) ws rs → rs.length = ws.length ∧ ∀ (i : Nat) (k v : Value), ws[i]? = some (k, v) → ∃ j, rs[i]? = some (j, v) ∧ (mixKind P w).is j k = true
  | [], [], _ => ⟨rfl, fun i k v e => by simp at e⟩
  | (k, v) :: ws, (j, v') :: rs, c => by
    obtain ⟨h1, h2, h3⟩ := c
    obtain ⟨e1, e2⟩ := carries_at h3
    refine ⟨by simp [e1], fun i k' u e => ?_⟩
    cases i with
    | zero => simp at e; obtain ⟨rfl, rfl⟩ := e; exact ⟨j, by simp [h2], h1⟩
    | succ i => simp at e; simpa using e2 i k' u e
  | [], _ :: _, c => c.elim
  | _ :: _, [], c => c.elim
theorem call_dictK (hc : X.calm = true) : CallR X (.type "dict") (rDictK X.K) := by
  intro pins s σ H xs us Q I r h
  obtain ⟨a, o, ts, kvs, rfl, ha, ho, hl, hp, hz, q⟩ := h
  obtain ⟨u, rfl, ru⟩ := vals1 r
  obtain rfl : u = Value.ref a := ru
  obtain ⟨hget, _, its, rv, o', ho', hcls, n, hdat⟩ := I.hok a _ ha
  rw [hget] at ho'
  cases ho'
  obtain ⟨qs, hv, hq⟩ := pairs_at I (ts := ts) (ps := kvs.map fun p => (kV p.1, p.2)) (by simpa using hl) fun i t p e1 e2 => by
    rw [List.getElem?_map] at e2
    cases z : kvs[i]? with
    | none => rw [z] at e2; cases e2
    | some y => rw [z] at e2; cases e2; exact hp i t y e1 z
  obtain ⟨rs, hcar, hkv⟩ := carries_of (P := X.prog) (w := X.w) hv
  have hql : qs.length = kvs.length := by have := Paired.length hv; simpa using this.symm
  have hit := items_at (h := s.heap) rv (by omega) hq
  obtain ⟨hrl, hrr⟩ := carries_at hcar
  refine PySem.call_dict_pairs (knd := mixKind X.prog X.w) (kvs := rs) (PairArg.tuple a its.toArray (fun j => (ts[j]?).getD 0) qs) (I.ok.hd hc) ⟨⟨o, n, hget, hcls, ho, hdat⟩, hit⟩ ⟨hrl, fun i key v hr => hrr i key v hr⟩ (by rw [hql]; exact Nat.le_trans hz SZ) fun h' tk hD hk => ?_
  have hm : (s.heap.objs.size == sysModules) = false := big_ne I
  have hlen : (mergeK [] kvs).length ≤ sizeLine := by
    refine Nat.le_trans (length_mergeK kvs []) ?_
    rw [List.length_nil, Nat.zero_add]
    exact Nat.le_trans hz SZ
  exact ⟨.ref s.heap.objs.size, upd H s.heap.objs.size (.dK (mergeK [] kvs)), I.laid (t' := tk) (fun b o e => hk b o (fun h => nomatch h) e) (Nat.le_refl _) (show ObjOk X.prog X.w _ _ _ (.dK (mergeK [] kvs)) from ⟨hlen, hm, merged [] rs, KV.merge hkv .nil, hD⟩), rfl, q _ (I.hok.fresh (Nat.le_refl _))⟩
def nflat : NestedKey → Option FKey
  | .num i => some (.inl i)
  | .text x => some (.inr x)
  | _ => none
/-- the pairs of a key: ((1, 2), (3, 1), ..) -/
def pairsK : List NestedKey → Option (List (FKey × NestedKey))
  | [] => some []
  | .tup [k, v] :: ks => match nflat k, pairsK ks with
    | some j, some r => some ((j, v) :: r)
    | _, _ => none
  | _ => none
def dikOf (ps : List (FKey × NestedKey)) : List FKey × List D := ps.foldl (fun acc p => (kKeys acc.1 p.1, kVals acc.1 acc.2 p.1 (ofKey p.2))) ([], [])
def dDictK : List D → Option D
  | [.nk (.tup ks)] => match pairsK ks with
    | some ps => if ps.length ≤ 1000000 then some (.dik (dikOf ps).1 (dikOf ps).2) else none
    | none => none
  | _ => none
theorem flat_nden {K : PySem.W.Frag} {k : NestedKey} {j : FKey} {v : V} (e : nflat k = some j) (h : NDen K F k v) : v = kV j := by
  cases k with
  | num i => cases e; rw [NDen] at h; exact h
  | text i => cases e; rw [NDen] at h; exact h
  | _ => cases e
theorem pairsK_ok {C : Ct} : ∀ {ks : List NestedKey} {vs : List V} {ps : List (FKey × NestedKey)}, pairsK ks = some ps → NDens C.K F ks vs → ∃ (ts : List Addr) (us : List V), vs = ts.map V.ref ∧ ts.length = us.length ∧ us.length = ps.length ∧ (∀ (i : Nat) (p : FKey × NestedKey) (u : V), ps[i]? = some p → us[i]? = some u → NDen C.K F p.2 u) ∧ (∀ (i : Nat) (t : Addr) (p : FKey × V), ts[i]? = some t → ((ps.map (·.1)).zip us)[i]? = some p → SqT C.K F t [kV p.1, p.2])
  | [], vs, ps, e, h => by
    rw [NDens] at h
    cases e
    exact ⟨[], [], h, rfl, rfl, fun i p u e => by simp at e, fun i t p e => by simp at e⟩
  | k :: ks, vs, ps, e, h => by
    unfold pairsK at e
    split at e
    · rename_i q; cases q
    · rename_i k v ks' q
      cases q
      split at e
      · rename_i j r e1 e2
        cases e
        rw [NDens] at h
        obtain ⟨u, us', rfl, h1, h2⟩ := h
        rw [NDen] at h1
        obtain ⟨t, ws, rfl, ⟨o, h3, _⟩, h4⟩ := h1
        rw [NDens] at h4
        obtain ⟨k', r1, rfl, h5, h6⟩ := h4
        rw [NDens] at h6
        obtain ⟨v', r2, rfl, h7, h8⟩ := h6
        rw [NDens] at h8
        subst h8
        have ek := flat_nden e1 h5
        subst ek
        obtain ⟨ts, us, rfl, hl, hl2, hk, ht⟩ := pairsK_ok e2 h2
        refine ⟨t :: ts, v' :: us, rfl, by simp [hl], by simp [hl2], fun i p u e3 e4 => ?_, fun i t' p e3 e4 => ?_⟩
        · cases i with
          | zero => simp at e3 e4; subst e3 e4; exact h7
          | succ i => simp at e3 e4; exact hk i p u e3 e4
        · cases i with
          | zero => simp at e3 e4; subst e3 e4; exact .inl (.inr ⟨o, h3⟩)
          | succ i =>
            rw [List.map_cons, List.zip_cons_cons] at e4
            simp only [List.getElem?_cons_succ] at e3 e4
            exact ht i t' p e3 e4
      · cases e
    · cases e
theorem dikOf_ok {C : Ct} {φ : List Addr} : ∀ (ps : List (FKey × NestedKey)) (us : List V) (ks : List FKey) (ds : List D) (vs : List V), us.length = ps.length → (∀ (i : Nat) (p : FKey × NestedKey) (u : V), ps[i]? = some p → us[i]? = some u → NDen C.K F p.2 u) → ks.length = vs.length → ks.Nodup → Dens C φ F ds vs →
    ∃ vs', mergeK (ks.zip vs) ((ps.map (·.1)).zip us) = ((ps.foldl (fun acc p => (kKeys acc.1 p.1, kVals acc.1 acc.2 p.1 (ofKey p.2))) (ks, ds)).1).zip vs' ∧ (ps.foldl (fun acc p => (kKeys acc.1 p.1, kVals acc.1 acc.2 p.1 (ofKey p.2))) (ks, ds)).1.length = vs'.length ∧ (ps.foldl (fun acc p => (kKeys acc.1 p.1, kVals acc.1 acc.2 p.1 (ofKey p.2))) (ks, ds)).1.Nodup ∧ Dens C φ F (ps.foldl (fun acc p => (kKeys acc.1 p.1, kVals acc.1 acc.2 p.1 (ofKey p.2))) (ks, ds)).2 vs'
  | [], us, ks, ds, vs, hl, hk, hkl, hn, hd => ⟨vs, by simp [mergeK], hkl, hn, hd⟩
  | p :: ps, us, ks, ds, vs, hl, hk, hkl, hn, hd => by
    cases us with
    | nil => simp at hl
    | cons u us =>
      obtain ⟨vs1, e1, e2, e3, e4⟩ := putK_ok (j := p.1) (ofKey_den (φ := φ) p.2 u (hk 0 p u rfl rfl)) hkl hn hd
      obtain ⟨vs2, f1, f2, f3, f4⟩ := dikOf_ok ps us (kKeys ks p.1) (kVals ks ds p.1 (ofKey p.2)) vs1 (by simpa using hl) (fun i p' u' a b => hk (i + 1) p' u' (by simpa using a) (by simpa using b)) e2 e3 e4
      refine ⟨vs2, ?_, f2, f3, f4⟩
      rw [List.map_cons, List.zip_cons_cons]
      show mergeK (putK (ks.zip vs) p.1 u) _ = _
      rw [e1]
      exact f1
theorem cg_dictK (hK : X.K = B.C.K) {φ : List Addr} {ρ : Env} {γ : List D} {ds : List D} {d : D} {vs : List V} {Q : VK} (R : Rel B F φ H ρ γ σ) (p : Pks B ρ σ φ F ds vs) (e : dDictK ds = some d)
    (G : ∀ ks ds vs p, d = .dik ks ds → ks.length = vs.length → ks.Nodup → Dens B.C φ F ds vs → H p = none → Q (.ref p) (upd H p (.dK (ks.zip vs)))) : rDictK X.K vs H Q := by
  unfold dDictK at e
  split at e
  · rename_i ks
    split at e
    · rename_i ps e1
      split at e
      · rename_i hz
        cases e
        obtain ⟨v, rfl, h⟩ := p.one
        have h : Den B.C φ F (.nk (.tup ks)) v := by
          rcases h with h | ⟨j, ej, h⟩
          · exact h
          · rcases R.fz j _ ej with ⟨u, _, q⟩ | ⟨d', a, q, _, _, ow⟩
            · rw [Den] at q; exact q.elim
            · cases q; exact ow.elim
        rw [Den, NDen] at h
        obtain ⟨a, us, rfl, ⟨o, h1, h2⟩, h3⟩ := h
        obtain ⟨ts, ws, rfl, hl, hl2, hk, ht⟩ := pairsK_ok e1 h3
        obtain ⟨vs', f1, f2, f3, f4⟩ := dikOf_ok (φ := φ) (C := B.C) ps ws [] [] [] hl2 hk rfl List.nodup_nil .nil
        refine ⟨a, o, ts, (ps.map (·.1)).zip ws, rfl, R.c.sub _ _ h1, h2, ?_, fun i t p e1 e2 => ?_, ?_, fun p hp => ?_⟩
        · rw [List.length_zip, List.length_map, ← hl2, Nat.min_self]; exact hl
        · rw [hK]; exact sqT_same R.c.sub (ht i t p e1 e2)
        · rw [List.length_zip, List.length_map, ← hl2, Nat.min_self, hl2]; exact hz
        · have f1 : mergeK [] ((ps.map (·.1)).zip ws) = _ := f1
          rw [f1]
          exact G _ _ _ p rfl f2 f3 f4 hp
      · cases e
    · cases e
  · cases e
theorem cd_dictK (hK : X.K = B.C.K) : CallD B (rDictK X.K) dDictK := by
  intro F φ H ρ γ σ ds d vs Q R p e G
  refine cg_dictK hK R p e fun ks ds vs p ed h1 h2 h3 hp => ?_
  subst ed
  exact G.dik R h1 h2 h3 hp
theorem cf_dictK (hK : X.K = B.C.K) : CallF B (rDictK X.K) dDictK := by
  intro F φ H ρ γ σ ds d vs Q R p e G
  refine cg_dictK hK R p e fun ks ds vs p ed h1 h2 h3 hp => ?_
  subst ed
  exact G.dik R h1 h2 h3 hp
end
end DL

/-! DLf: tuples as keys; walks, subscripts, get, dict(..) whatever is there; sorted; tuple * int -/
namespace DL
open PySem PySem.Spec PyProof.Rows L2
section
variable {X : Cx} {B : Fx} {W : WX} {F H : Hp} {σ : St} {e o i f : Expr} {fe fo fk fx fa fb : ESem} {pos apos cpos p : Pos} {tg : Expr} {fs : Env → List D → Res (List D)}
/-! ### one rule or the other, by what an expression gives -/
theorem PE.or {t1 t2 : TE} (h1 : PE X e t1) (h2 : PE X e t2) : PE X e (fun σ H Q => t1 σ H Q ∨ t2 σ H Q) := ⟨fun pins s σ H Q I h => h.elim (h1.run pins s σ H Q I) (h2.run pins s σ H Q I)⟩
theorem PI.or {t1 t2 : TI} (h1 : PI X tg e t1) (h2 : PI X tg e t2) : PI X tg e (fun σ H Q => t1 σ H Q ∨ t2 σ H Q) := ⟨fun pins s σ H Q I h => h.elim (h1.run pins s σ H Q I) (h2.run pins s σ H Q I)⟩
def byD {α : Type} (fo : ESem) (sel : D → Bool) (f1 f2 : Env → List D → Res α) : Env → List D → Res α := fun ρ γ => match fo ρ γ with
  | .ok d _ => if sel d = true then f1 ρ γ else f2 ρ γ
  | _ => f2 ρ γ
theorem byD_read {α β : Type} {R : RR α β} {sel : D → Bool} {f1 f2 : Env → List D → Res α} {Q : β → Hp → Prop} (h : tG B W R (byD fo sel f1 f2) σ H Q) : tG B W R f1 σ H Q ∨ tG B W R f2 σ H Q := by
  obtain ⟨F, φ, ρ, γ, Rl, P⟩ := h
  unfold byD at P
  split at P
  · split at P
    · exact .inl ⟨F, φ, ρ, γ, Rl, P⟩
    · exact .inr ⟨F, φ, ρ, γ, Rl, P⟩
  · exact .inr ⟨F, φ, ρ, γ, Rl, P⟩
theorem de_by {sel : D → Bool} {f1 f2 : ESem} (h1 : PE X e (tE B W f1)) (h2 : PE X e (tE B W f2)) : PE X e (tE B W (byD fo sel f1 f2)) := PE.imp (PE.or h1 h2) fun σ H Q h => byD_read h
theorem di_by {sel : D → Bool} {f1 f2 : LSem} (h1 : PI X tg e (tG B W (rSrc B) f1)) (h2 : PI X tg e (tG B W (rSrc B) f2)) : PI X tg e (tG B W (rSrc B) (byD fo sel f1 f2)) := PI.imp (PI.or h1 h2) fun σ H Q h => byD_read h
def D.isLst : D → Bool | .lst _ => true | _ => false
def D.isDic : D → Bool | .dic _ => true | _ => false
def D.isDik : D → Bool | .dik _ _ => true | _ => false
def D.isNk : D → Bool | .nk _ => true | _ => false
def D.isCell : D → Bool | .cell _ => true | _ => false
def D.isScr : D → Bool | .scr _ => true | _ => false
/-! ### a key, walked -/
def lNk (f : ESem) : LSem := fun ρ γ => (f ρ γ).bind fun x γ => match x with
  | .nk (.tup ks) => .ok (ofKeys ks) γ
  | _ => .stuck
theorem di_nk (hK : X.K = B.C.K) (h : PE X e (tE B W fe)) : PI X tg e (tG B W (rSrc B) (lNk fe)) := PI.imp (pi_tup h) fun σ H Q ⟨F, φ, ρ, γ, R, P⟩ => by
  refine run1 R P fun d γ1 v F1 φ1 H1 x1 R1 d1 P1 => ?_
  have d1 : Den B.C φ1 F1 d v := d1
  split at P1
  · rename_i ks
    rw [Den, NDen] at d1
    obtain ⟨a, vs, rfl, ⟨o, h1, _⟩, h2⟩ := d1
    have h1 : SqT X.K F1 a vs := .inl (.inr ⟨o, h1⟩)
    exact ⟨a, rfl, ⟨vs, sqT_same R1.c.sub h1⟩, P1 _ F1 φ1 H1 (Ext.refl _ _ _) R1 (src_tup (fun H s => sqT_same s h1) (ofKeys_den _ vs h2))⟩
  · exact P1.elim
/-- whatever is walked -/
def lAny (f : ESem) : LSem := byD f D.isLst (lLst f) (byD f D.isDic (lDic f) (byD f D.isNk (lNk f) (lTup f)))
theorem di_any (hK : X.K = B.C.K) (h : PE X e (tE B W fe)) : PI X tg e (tG B W (rSrc B) (lAny fe)) := di_by (di_list hK h) (di_by (di_keys h) (di_by (di_nk hK h) (di_tup hK h)))

/-- a, b, .. = a tuple or a list -/
def gTL (K : PySem.W.Frag) (n : Nat) (t : TGs) : TG := fun v σ H Q => gTup K n t v σ H Q ∨ gLst K n t v σ H Q
theorem pg_tl {es : List Expr} {k : Nat} {t : TGs} {n : Nat} {tp : Pos} (hc : X.calm = true) (h : PGs X es t) (hn : (assignEach es X.env).length = n := by rfl) (hst : (assignEach es X.env).findIdx? (·.1) = none := by rfl) : PG X (.Tuple es k tp) (gTL X.K n t) :=
  ⟨fun pins s σ H v u Q I r hw => hw.elim (fun z => (pg_tup hc h hn hst).run pins s σ H v u Q I r z) fun z => (pg_lst hc h hn hst).run pins s σ H v u Q I r z⟩
def gtP (i j : Nat) : Tgt := fun d ρ => match d with
  | .lst [a, b] => some ((ρ.set i (some a)).set j (some b))
  | .nk (.tup [a, b]) => some ((ρ.set i (some (ofKey a))).set j (some (ofKey b)))
  | d => gtT2 i j d ρ
theorem gt_p (hK : X.K = B.C.K) {i j : Nat} : GT B (gTL X.K 2 (gCons (gName i) (gCons (gName j) gNil))) (gtP i j) [i, j] := by
  intro F φ H ρ γ σ d v ρ' Q R h e k
  unfold gtP at e
  split at e
  · rename_i a b
    cases e
    rw [Den] at h
    obtain ⟨l, vs, rfl, h1, h2⟩ := h
    rw [Dens] at h2
    obtain ⟨v1, r, rfl, h3, h4⟩ := h2
    rw [Dens] at h4
    obtain ⟨v2, r, rfl, h5, h6⟩ := h4
    rw [Dens] at h6
    subst h6
    refine .inr ⟨l, _, rfl, .inl (.inl (R.c.sub _ _ h1)), rfl, v1, [v2], rfl, v2, [], rfl, rfl, ?_⟩
    refine k _ ((R.set h3 i).set h5 j) ?_
    show L2.wipe ((σ.set i (some v1)).set j (some v2)) [i, j] = L2.wipe σ [i, j]
    rw [wipe_set _ j _ (by simp), wipe_set _ i _ (by simp)]
  · rename_i a b
    cases e
    rw [Den, NDen] at h
    obtain ⟨l, vs, rfl, ⟨o, h1, _⟩, h2⟩ := h
    rw [NDens] at h2
    obtain ⟨v1, r, rfl, h3, h4⟩ := h2
    rw [NDens] at h4
    obtain ⟨v2, r, rfl, h5, h6⟩ := h4
    rw [NDens] at h6
    subst h6
    refine .inl ⟨l, _, rfl, .inl (.inr ⟨o, R.c.sub _ _ h1⟩), rfl, v1, [v2], rfl, v2, [], rfl, rfl, ?_⟩
    refine k _ ((R.set (ofKey_den _ _ h3) i).set (ofKey_den _ _ h5) j) ?_
    show L2.wipe ((σ.set i (some v1)).set j (some v2)) [i, j] = L2.wipe σ [i, j]
    rw [wipe_set _ j _ (by simp), wipe_set _ i _ (by simp)]
  · exact .inl (gt_t2 hK F φ H ρ γ σ d v ρ' Q R h e k)
/-! ### tuples made as keys -/
def tTupB (t : TA) : TE := fun σ H Q => t σ H fun xs H1 => xs.length ≤ sizeLine ∧ ∀ p o, o.dict = none → H1 p = none → Q (.ref p) (upd H1 p (.frz o (.tup xs)))
theorem pe_tupB {es : List Expr} {t : TA} {x1 : Nat} (h : PA X es t) : PE X (.Tuple es x1 pos) (tTupB t) := by
  refine ⟨fun pins s σ H Q I hq => ?_⟩
  refine wpAny_Tuple_spliced (thn (h.run pos pins s σ H _ I hq) fun us s1 ⟨xs, H1, I1, r, z, q⟩ => ⟨by rw [← r.length]; exact z, ?_⟩)
  have hf : H1 s1.heap.objs.size = none := I1.hok.fresh (Nat.le_refl _)
  refine ⟨.ref s1.heap.objs.size, upd H1 s1.heap.objs.size (.frz { cls := .type "tuple", data := .seq us.toArray } (.tup xs)), I1.laid (t' := s1.toks) (fun b u e => Heap.get?_push_of_some _ e) (Nat.le_refl _) ?_, rfl, q _ _ rfl hf⟩
  exact ⟨Heap.get?_push_size _ rfl, z, us, r, ⟨_, Heap.get?_push_size _ rfl, rfl, _, rfl⟩⟩
theorem Gv.nk {φ : List Addr} {ρ : Env} {γ : List D} {ks : List NestedKey} {vs : List V} {Q : VK} {p : Addr} {o : Obj} (g : Gv B F φ H ρ γ σ (.nk (.tup ks)) Q) (R : Rel B F φ H ρ γ σ) (ho : o.dict = none) (hd : NDens B.C.K F ks vs) (hp : H p = none) : Q (.ref p) (upd H p (.frz o (.tup vs))) := by
  have hF : F p = none := R.fnone hp
  refine g _ (upd F p (.frz o (.tup vs))) φ _ (ext_lay R.c.sub hp) (R.lay hp) ?_
  rw [Den, NDen]
  exact ⟨p, vs, rfl, ⟨o, upd_same, ho⟩, NDens.same (same_upd hF) _ _ hd⟩
def eTupK (f : Env → List D → Res (List D)) : ESem := fun ρ γ => (f ρ γ).bind fun ds γ => match D.keys ds with
  | some ks => if ks.length ≤ 1000000 then .ok (.nk (.tup ks)) γ else .stuck
  | none => .stuck
theorem ndens_len {K : PySem.W.Frag} : ∀ {ks : List NestedKey} {vs : List V}, NDens K F ks vs → ks.length = vs.length
  | [], vs, h => by rw [NDens] at h; rw [h]; rfl
  | k :: ks, vs, h => by
    rw [NDens] at h
    obtain ⟨v, r, rfl, _, h2⟩ := h
    rw [List.length_cons, List.length_cons, ndens_len h2]
theorem de_tupK {es : List Expr} {k : Nat} (h : PA X es (tA B W fs)) : PE X (.Tuple es k pos) (tE B W (eTupK fs)) := PE.imp (pe_tupB h) fun σ H Q ⟨F, φ, ρ, γ, R, P⟩ => by
  refine run1 R P fun ds γ1 vs F1 φ1 H1 x1 R1 d1 P1 => ?_
  have d1 : Dens B.C φ1 F1 ds vs := d1
  split at P1
  · rename_i ks e
    split at P1
    · rename_i hl
      have hk := keys_den ds ks vs e d1
      exact ⟨by rw [← ndens_len hk]; exact Nat.le_trans hl SZ, fun p o ho hp => Gv.nk P1 R1 ho hk hp⟩
    · exact P1.elim
  · exact P1.elim
def rTupB (K : PySem.W.Frag) : List V → Hp → VK → Prop := fun xs H Q => ∃ a ys, xs = [.ref a] ∧ SqL K H a ys ∧ ∀ p o, o.dict = none → H p = none → Q (.ref p) (upd H p (.frz o (.tup ys)))
theorem call_tupB : CallR X (.type "tuple") (rTupB X.K) := by
  intro pins s σ H xs us Q I r h
  obtain ⟨a, ys, rfl, hs, q⟩ := h
  obtain ⟨u, rfl, ru⟩ := vals1 r
  obtain rfl : u = Value.ref a := ru
  obtain ⟨its, rv, pl, hz⟩ := I.list hs
  refine call_tuple_list pl.isList (fun h' hk => ?_) (by rw [List.size_toArray, ← rv.length]; exact hz)
  have I1 : Inv X pins σ H { s with heap := h' } := I.kept (t' := s.toks) hk
  exact ⟨.ref h'.objs.size, upd H h'.objs.size (.frz { cls := .type "tuple", data := .seq its.toArray } (.tup ys)), I1.laid (t' := s.toks) (fun b o e => Heap.get?_push_of_some _ e) (Nat.le_refl _) ⟨Heap.get?_push_size _ rfl, hz, its, rv, IsTup.new _ _⟩, rfl, q _ _ rfl (I1.hok.fresh (Nat.le_refl _))⟩
def dTupK : List D → Option D
  | [.lst ds] => (D.keys ds).map fun ks => .nk (.tup ks)
  | _ => none
theorem cd_tupK (hK : X.K = B.C.K) : CallD B (rTupB X.K) dTupK := by
  intro F φ H ρ γ σ ds d vs Q R p e G
  match ds, e with
  | [.lst es], e =>
    simp only [dTupK] at e
    cases q : D.keys es with
    | none => rw [q] at e; cases e
    | some ks =>
      rw [q] at e
      cases e
      obtain ⟨v, rfl, h⟩ := p.one
      obtain ⟨l, us, rfl, h1, h2⟩ := Pk.lst R h
      exact ⟨l, us, rfl, .inl (.inl h1), fun p o ho hp => Gv.nk G R ho (keys_den es ks us q h2) hp⟩
/-! ### calls: the one or the other -/
theorem CallR.or {v : Value} {r r' : List V → Hp → VK → Prop} (h : CallR X v r) (h' : CallR X v r') : CallR X v (fun xs H Q => r xs H Q ∨ r' xs H Q) := fun pins s σ H xs us Q I rl q => q.elim (h pins s σ H xs us Q I rl) (h' pins s σ H xs us Q I rl)
def callOr (g h : List D → Option D) : List D → Option D := fun ds => match g ds with
  | some d => some d
  | none => h ds
theorem CallD.or {r r' : List V → Hp → VK → Prop} {g h : List D → Option D} (a : CallD B r g) (b : CallD B r' h) : CallD B (fun xs H Q => r xs H Q ∨ r' xs H Q) (callOr g h) := by
  intro F φ H ρ γ σ ds d vs Q R p e G
  unfold callOr at e
  split at e
  · rename_i q; cases e; exact .inl (a F φ H ρ γ σ ds _ vs Q R p q G)
  · exact .inr (b F φ H ρ γ σ ds _ vs Q R p e G)
theorem CallF.or {r r' : List V → Hp → VK → Prop} {g h : List D → Option D} (a : CallF B r g) (b : CallF B r' h) : CallF B (fun xs H Q => r xs H Q ∨ r' xs H Q) (callOr g h) := by
  intro F φ H ρ γ σ ds d vs Q R p e G
  unfold callOr at e
  split at e
  · rename_i q; cases e; exact .inl (a F φ H ρ γ σ ds _ vs Q R p q G)
  · exact .inr (b F φ H ρ γ σ ds _ vs Q R p e G)
def dDict : List D → Option D := callOr dCopy (callOr dDictP dDictK)
theorem call_dict (L : Lk X B) (hc : X.calm = true) (hu : X.A.units + 64 < cLine) : CallR X (.type "dict") (fun xs H Q => rDcopy B xs H Q ∨ rDictP B xs H Q ∨ rDictK X.K xs H Q) := CallR.or (call_dcopy L hu) (CallR.or (call_dictP L hc hu) (call_dictK hc))
theorem cd_dict (hK : X.K = B.C.K) : CallD B (fun xs H Q => rDcopy B xs H Q ∨ rDictP B xs H Q ∨ rDictK X.K xs H Q) dDict := CallD.or cd_copy (CallD.or cd_dictP (cd_dictK hK))
theorem cf_dict (hK : X.K = B.C.K) : CallF B (fun xs H Q => rDcopy B xs H Q ∨ rDictP B xs H Q ∨ rDictK X.K xs H Q) dDict := CallF.or cf_copy (CallF.or cf_dictP (cf_dictK hK))
/-! ### d.get, x[i] -/
def eGetA (fo fk fx : ESem) : ESem := byD fo D.isDik (eGetK fo fk fx) (eGet fo fk fx)
theorem de_getA (L : Lk X B) (hu : X.A.units + 64 < cLine) (ho : PE X o (tP B W fo)) (he : PE X e (tE B W fk)) (hf : PE X f (tE B W fx)) (m : M2 X o "get" apos e f cpos) : PE X (.Call (.Attribute o "get" apos) [e, f] [] cpos) (tE B W (eGetA fo fk fx)) := de_by (de_getK hu ho he hf m) (de_get L hu ho he hf m)
def eSubP (fo fk : ESem) : ESem := byD fo D.isDik (eItemK fo fk) (byD fo D.isDic (eItem fo fk) (eOp dIx fo fk))
def eSubA (fo fk : ESem) : ESem := byD fo D.isCell (eIxC fo fk) (eSubP fo fk)
theorem de_subP (L : Lk X B) (hu : X.A.units + 64 < cLine) (ho : PE X o (tP B W fo)) (hi : PE X i (tE B W fk)) (hs : NoSl i := by exact fun _ _ => rfl) (hs' : PlainIx i := by exact fun _ _ => rfl) : PE X (.Subscript o i pos) (tE B W (eSubP fo fk)) := de_by (de_itemK hu ho hi hs) (de_by (de_item L hu ho hi hs) (de_ix L.K ho (dp hi) hs'))
theorem de_subA (L : Lk X B) (hu : X.A.units + 64 < cLine) (ho : PE X o (tE B W fo)) (hi : PE X i (tE B W fk)) (hs : NoSl i := by exact fun _ _ => rfl) (hs' : PlainIx i := by exact fun _ _ => rfl) : PE X (.Subscript o i pos) (tE B W (eSubA fo fk)) := de_by (de_ixC L.K ho hi hs') (de_subP L hu (dp ho) hi hs hs')
/-! ### list(d), d with ints or texts as keys -/
def dLstK : List D → Option D
  | [.dik ks ds] => some (.lst (ks.map ofF))
  | _ => none
theorem ofF_dens {C : Ct} {φ : List Addr} : ∀ ks : List FKey, Dens C φ F (ks.map ofF) (ks.map kV)
  | [] => .nil
  | k :: ks => .cons (ofF_den k) (ofF_dens ks)
theorem zip_keys : ∀ {ks : List FKey} {vs : List V}, ks.length = vs.length → (ks.zip vs).map (fun kv => kV kv.1) = ks.map kV
  | [], [], _ => rfl
  | k :: ks, v :: vs, h => by rw [List.zip_cons_cons, List.map_cons, List.map_cons, zip_keys (by simpa using h)]
  | [], _ :: _, h => by simp at h
  | _ :: _, [], h => by simp at h
theorem cd_listK : CallD B rListD dLstK := by
  intro F φ H ρ γ σ ds d vs Q R p e G
  match ds, e with
  | [.dik ks es], e =>
    cases e
    obtain ⟨v, rfl, h⟩ := p.one
    obtain ⟨l, us, rfl, h1, h2, h3, h4⟩ := Pk.dik R h
    exact ⟨l, _, rfl, h1, fun p hp => by rw [zip_keys h2]; exact G.lst R (ofF_dens ks) hp⟩
/-! ### sorted -/
def leD (x y : D) : Bool := PySem.W.dataLe false D.py x y
def insD (x : D) : List D → List D
  | [] => [x]
  | y :: ys => if leD x y = true then x :: y :: ys else y :: insD x ys
def sortD : List D → List D
  | [] => []
  | x :: xs => insD x (sortD xs)
theorem leD_total : PySem.W.TotalLe leD := PySem.W.sortLe_total _ false _
theorem ins_filter (c x : D) : ∀ ys : List D, (insD x ys).filter (PySem.W.sameRank leD c) = (x :: ys).filter (PySem.W.sameRank leD c)
  | [] => rfl
  | y :: ys => by
    rw [insD]
    by_cases h : leD x y = true
    · rw [if_pos h]
    · rw [if_neg h, List.filter_cons, ins_filter c x ys, List.filter_cons, List.filter_cons, List.filter_cons]
      cases hx : PySem.W.sameRank leD c x with
      | false => simp [hx]
      | true =>
        cases hy : PySem.W.sameRank leD c y with
        | false => simp [hx, hy]
        | true =>
          exfalso
          unfold PySem.W.sameRank at hx hy
          rw [Bool.and_eq_true] at hx hy
          exact h (leD_total.trans x c y hx.2 hy.1)
theorem ins_mem {x z : D} : ∀ {ys : List D}, z ∈ insD x ys → z = x ∨ z ∈ ys
  | [], h => by rw [insD] at h; exact .inl (by simpa using h)
  | y :: ys, h => by
    rw [insD] at h
    split at h
    · rcases List.mem_cons.mp h with h | h
      · exact .inl h
      · exact .inr h
    · rcases List.mem_cons.mp h with h | h
      · exact .inr (by simp [h])
      · rcases ins_mem h with h | h
        · exact .inl h
        · exact .inr (by simp [h])
theorem ins_sorted {x : D} : ∀ {ys : List D}, ys.Pairwise (fun a b => leD a b = true) → (insD x ys).Pairwise (fun a b => leD a b = true)
  | [], h => by rw [insD]; simp
  | y :: ys, h => by
    rw [insD]
    rw [List.pairwise_cons] at h
    by_cases hx : leD x y = true
    · rw [if_pos hx, List.pairwise_cons, List.pairwise_cons]
      refine ⟨fun z hz => ?_, h⟩
      rcases List.mem_cons.mp hz with rfl | hz
      · exact hx
      · exact leD_total.trans x y z hx (h.1 z hz)
    · rw [if_neg hx, List.pairwise_cons]
      refine ⟨fun z hz => ?_, ins_sorted h.2⟩
      rcases ins_mem hz with rfl | hz
      · exact (leD_total.total z y).resolve_left hx
      · exact h.1 z hz
theorem sort_filter (c : D) : ∀ xs : List D, (sortD xs).filter (PySem.W.sameRank leD c) = xs.filter (PySem.W.sameRank leD c)
  | [] => rfl
  | x :: xs => by rw [sortD, ins_filter, List.filter_cons, List.filter_cons, sort_filter c xs]
theorem sort_sorted : ∀ xs : List D, (sortD xs).Pairwise (fun a b => leD a b = true)
  | [] => List.Pairwise.nil
  | x :: xs => ins_sorted (sort_sorted xs)
theorem sortD_eq (xs : List D) : xs.mergeSort (PySem.W.dataLe false D.py) = sortD xs := (PySem.W.sort_unique leD_total (sort_sorted xs) fun c => sort_filter c xs).symm
def D.nonEmptyTup : D → Bool
  | .tup (_ :: _) => true
  | _ => false
def D.other : D → Bool
  | .tup _ => false
  | .non => false
  | _ => true
def dSorted : List D → Option D
  | [.lst ds] => if (D.plains 50 ds && (ds.all fun a => ds.all fun b => PySem.W.alike a.py b.py) && (ds.all D.nonEmptyTup || ds.all D.other) && decide (ds.length ≤ 1000000)) = true then some (.lst (sortD ds)) else none
  | _ => none
def rSortD (B : Fx) : List V → Hp → VK → Prop := fun xs H Q => ∃ F φ a ys ds, xs = [.ref a] ∧ Same F H ∧ SqL B.C.K H a ys ∧ Dens B.C φ F ds ys ∧ D.plains 50 ds = true ∧ (ds.all fun a => ds.all fun b => PySem.W.alike a.py b.py) = true ∧ (ds.all D.nonEmptyTup || ds.all D.other) = true ∧ ds.length ≤ 1000000 ∧ ∀ zs p, Dens B.C φ F (sortD ds) zs → H p = none → Q (.ref p) (upd H p (.lst zs))
theorem each_den {C : Ct} {φ : List Addr} : ∀ {ds : List D} {vs : List V} {us : List Value}, Dens C φ F ds vs → Vals vs us → PySem.W.EachIs (fun (u : Value) (d : D) => ∃ v, RelV v u ∧ Den C φ F d v) us ds
  | [], vs, us, h, r => by rw [Dens] at h; subst h; cases r; exact .nil
  | d :: ds, vs, us, h, r => by
    rw [Dens] at h
    obtain ⟨v, vr, rfl, h1, h2⟩ := h
    cases r with
    | cons r1 r2 => exact .cons ⟨v, r1, h1⟩ (each_den h2 r2)
theorem den_each {C : Ct} {φ : List Addr} : ∀ {ds : List D} {us : List Value}, PySem.W.EachIs (fun (u : Value) (d : D) => ∃ v, RelV v u ∧ Den C φ F d v) us ds → ∃ vs, Vals vs us ∧ Dens C φ F ds vs
  | _, _, .nil => ⟨[], .nil, .nil⟩
  | _, _, .cons ⟨v, r, h⟩ t => by
    obtain ⟨vs, r2, h2⟩ := den_each t
    exact ⟨v :: vs, .cons r r2, .cons h h2⟩
theorem plains_mem {n : Nat} : ∀ {ds : List D}, D.plains n ds = true → ∀ d ∈ ds, D.plain n d = true
  | [], _, d, h => nomatch h
  | x :: xs, p, d, h => by
    rw [D.plains, Bool.and_eq_true] at p
    rcases List.mem_cons.mp h with rfl | h
    · exact p.1
    · exact plains_mem p.2 d h
theorem each_reads {pins : List (Addr × Obj)} {s : Shared} {φ : List Addr} (hK : X.K = B.C.K) (I : Inv X pins σ H s) (sm : Same F H) : ∀ {ds : List D} {us : List Value}, (∀ d ∈ ds, D.plain 50 d = true) → PySem.W.EachIs (fun (u : Value) (d : D) => ∃ v, RelV v u ∧ Den B.C φ F d v) us ds → PySem.W.EachIs (fun v b => ∃ as, Reads s.heap v (D.py b) as) us ds
  | _, _, _, .nil => .nil
  | d :: ds, _, hp, .cons ⟨v, r, h⟩ t => .cons (Dp.reads I d.py v _ (by rw [hK]; exact den_dp sm 50 d v (hp d (by simp)) h) r) (each_reads hK I sm (fun d' h' => hp d' (by simp [h'])) t)
theorem call_sortD (hK : X.K = B.C.K) (hu : X.A.units + 64 < cLine) : CallR X (.builtin "sorted") (rSortD B) := by
  intro pins s σ H xs us Q I r h
  obtain ⟨F, φ, a, ys, ds, rfl, sm, hs, hd, hp, hal, hso, hz, q⟩ := h
  obtain ⟨u, rfl, ru⟩ := vals1 r
  obtain rfl : u = Value.ref a := ru
  rw [← hK] at hs
  obtain ⟨its, rv, pl, _⟩ := I.list hs
  have he := each_den hd rv
  have hpl := plains_mem hp
  refine PySem.W.sorted_data (enc := D.py) (bs := ds) pl.isList he (each_reads hK I sm hpl he) ?_ ?_ (Nat.le_trans hz SZ) (fun b hb => ?_) fun out hl ho => ?_
  · intro d hd d' hd'
    obtain ⟨x, hx, rfl⟩ := List.mem_map.mp hd
    obtain ⟨y, hy, rfl⟩ := List.mem_map.mp hd'
    exact List.all_eq_true.mp (List.all_eq_true.mp hal x hx) y hy
  · rcases Bool.or_eq_true_iff.mp hso with h | h
    · refine .inl fun d hd => ?_
      obtain ⟨x, hx, rfl⟩ := List.mem_map.mp hd
      have := List.all_eq_true.mp h x hx
      cases x with
      | tup es =>
        cases es with
        | nil => cases this
        | cons y ys => rw [D.py, D.pys]; exact ⟨_, _, rfl⟩
      | _ => cases this
    · refine .inr fun d hd => ?_
      obtain ⟨x, hx, rfl⟩ := List.mem_map.mp hd
      have h1 := List.all_eq_true.mp h x hx
      have h2 := hpl x hx
      cases x with
      | bl b => rw [D.py]; exact ⟨by simp, by simp⟩
      | int b => rw [D.py]; exact ⟨by simp, by simp⟩
      | str b => rw [D.py]; exact ⟨by simp, by simp⟩
      | lst b => rw [D.py]; exact ⟨by simp, by simp⟩
      | non => cases h1
      | tup b => cases h1
      | _ => simp [D.plain] at h2
  · have := (plain_shape 50 b (hpl b hb)).2
    omega
  · rw [sortD_eq] at ho
    obtain ⟨zs, r2, h2⟩ := den_each ho
    obtain ⟨ep, he'⟩ := PyProof.Rows.sortedAll_at s.heap its out.toArray
    exact ⟨.ref _, upd H (s.heap.objs.size + 1) (.lst zs), I.laid (t' := s.toks) (fun _ _ => PyProof.Rows.sortedAll_old) (Nat.le_succ _) ⟨by rw [r2.length, hl]; exact Nat.le_trans hz SZ, out, ep, r2, he'⟩, rfl, q zs _ h2 (I.hok.fresh (Nat.le_succ _))⟩
theorem cd_sorted : CallD B (rSortD B) dSorted := by
  intro F φ H ρ γ σ ds d vs Q R p e G
  match ds, e with
  | [.lst es], e =>
    simp only [dSorted] at e
    split at e
    · rename_i hc
      cases e
      rw [Bool.and_eq_true, Bool.and_eq_true, Bool.and_eq_true] at hc
      obtain ⟨v, rfl, h⟩ := p.one
      obtain ⟨l, us, rfl, h1, h2⟩ := Pk.lst R h
      exact ⟨F, φ, l, us, es, rfl, R.c.sub, .inl (.inl h1), h2, hc.1.1.1, hc.1.1.2, hc.1.2, of_decide_eq_true hc.2, fun zs p hz hp => G.lst R hz hp⟩
    · cases e
end
end DL

set_option maxHeartbeats 4000000
/-! DLg: + and * whatever is there; tuple * int -/
namespace DL
open PySem PySem.Spec PyProof.Rows L2
theorem tuple_mul1 (l : Addr) (items : Array Value) (n : Nat) (dd : Option Addr) (sl : Array (Option Value)) (u : Tok) :
    Meets (Builtin.«tuple.__mul__» ⟨[.ref l, .int 1 u], []⟩) (fun _ R s => s.heap.get? l = some { cls := .type "tuple", dict := dd, data := .seq items n, slots := sl } ∧ R (.ok (.ret (Value.ref l))) s) :=
  .of_wp fun prog w A R s h => by
    obtain ⟨hp, g, d, tk, os⟩ := s
    obtain ⟨hl, h⟩ := h
    have f1 := AutoSeq1.idx_int
    wp_walk using wpAny_loadPart' hl
    repeat (first
      | (refine wpAny_ite_true (by simp) ?_; wp_walk using wpAny_loadPart' hl)
      | (refine wpAny_ite_false (by decide) ?_; wp_walk using wpAny_loadPart' hl))
    exact ⟨_, rfl, h⟩
theorem tuple_mul0 (l : Addr) (items : Array Value) (n : Nat) (dd : Option Addr) (sl : Array (Option Value)) (x : Int) (u : Tok) (c0 : (decide (x < -(2 ^ 63)) || decide (x ≥ 2 ^ 63)) = false) (c1 : (items.isEmpty || x == 1) = false) (c2 : (decide (x ≤ 0) || items.isEmpty) = true) :
    Meets (Builtin.«tuple.__mul__» ⟨[.ref l, .int x u], []⟩) (fun _ R s => s.heap.get? l = some { cls := .type "tuple", dict := dd, data := .seq items n, slots := sl } ∧
      R (.ok (.ret (Value.ref s.heap.objs.size))) { s with heap := s.heap.push { cls := Value.type "tuple", data := Data.seq #[] }, toks := s.toks }) :=
  .of_wp fun prog w A R s h => by
    obtain ⟨hp, g, d, tk, os⟩ := s
    obtain ⟨hl, h⟩ := h
    have f1 := AutoSeq1.idx_int
    wp_walk using wpAny_loadPart' hl
    repeat (first
      | (refine wpAny_ite_false (decide_eq_false (by rw [c0]; exact Bool.false_ne_true)) ?_; wp_walk using wpAny_loadPart' hl)
      | (refine wpAny_ite_false (decide_eq_false (by rw [c1]; exact Bool.false_ne_true)) ?_; wp_walk using wpAny_loadPart' hl)
      | (refine wpAny_ite_true (decide_eq_true c2) ?_; wp_walk using wpAny_loadPart' hl))
    exact ⟨_, rfl, h⟩
theorem tuple_mulE (l : Addr) (n : Nat) (dd : Option Addr) (sl : Array (Option Value)) (x : Int) (u : Tok) (c0 : (decide (x < -(2 ^ 63)) || decide (x ≥ 2 ^ 63)) = false) :
    Meets (Builtin.«tuple.__mul__» ⟨[.ref l, .int x u], []⟩) (fun _ R s => s.heap.get? l = some { cls := .type "tuple", dict := dd, data := .seq #[] n, slots := sl } ∧ R (.ok (.ret (Value.ref l))) s) :=
  .of_wp fun prog w A R s h => by
    obtain ⟨hp, g, d, tk, os⟩ := s
    obtain ⟨hl, h⟩ := h
    have f1 := AutoSeq1.idx_int
    wp_walk using wpAny_loadPart' hl
    repeat (first
      | (refine wpAny_ite_false (decide_eq_false (by rw [c0]; exact Bool.false_ne_true)) ?_; wp_walk using wpAny_loadPart' hl)
      | (refine wpAny_ite_true (by simp) ?_; wp_walk using wpAny_loadPart' hl))
    exact ⟨_, rfl, h⟩
def rRep0 (K : PySem.W.Frag) : R2 := fun x y H Q => ∃ l k xs, x = .ref l ∧ y = .int k ∧ SqT K H l xs ∧ -1000 ≤ k ∧ k ≤ 1000 ∧ ((k = 1 ∧ Q (.ref l) H) ∨ (xs = [] ∧ Q (.ref l) H) ∨ (k ≤ 0 ∧ xs ≠ [] ∧ ∀ p, H p = none → Q (.ref p) (upd H p (.tup []))))
section
variable {X : Cx} {B : Fx} {W : WX} {a b : Expr} {fa fb : ESem} {pos : Pos}
theorem op_rep0 : OpR X (binaryOp .Mult) (rRep0 X.K) := by
  intro pins s σ H x y v u Q I rx ry h
  obtain ⟨l, k, xs, rfl, rfl, hT, h1, h2, hq⟩ := h
  cases rx
  obtain ⟨t, rfl⟩ := ry
  obtain ⟨its, r, ⟨⟨cls, dd, data, sl⟩, ho, hc, n, hd⟩, hs⟩ := I.tuple hT
  simp only at hc hd
  subst hc hd
  have c0 : (decide (k < -(2 ^ 63)) || decide (k ≥ 2 ^ 63)) = false := by
    rw [decide_eq_false (by omega), decide_eq_false (by omega)] <;> rfl
  have go : ∀ {R : Value → Shared → Prop}, (wpAny (model X.prog X.w) X.A (call (.builtin "tuple.__mul__") [.ref l, .int k t]) R X.xe s) → wpAny (model X.prog X.w) X.A (binaryOp .Mult (.ref l) (.int k t)) R X.xe s := fun {R} h =>
    wpAny_binaryOp_repeat_ref (T := "tuple") (U := "int") (by decide) ⟨_, ho, rfl⟩ (fun s' => typeIs_int s' k t) noFill_tuple_mul F.fills_int_mul F.slot_int_rmul repeat_tuple F.slot_int_index.lookup
      (call_meets F.slot_int_rmul (typeIs_int s k t) F.entry_int_rmul (F.args_int_rmul_2 _ _) (int_rmul_tuple k t l its.toArray n dd sl) ⟨ho, rfl, ⟨_, ho, rfl⟩, h⟩)
  rcases hq with ⟨rfl, q⟩ | ⟨rfl, q⟩ | ⟨hk, hne, q⟩
  · exact go (call_meets F.slot_tuple_mul ⟨_, ho, rfl⟩ F.entry_tuple_mul (F.args_tuple_mul_2 _ _) (tuple_mul1 l its.toArray n dd sl t) ⟨ho, .ref l, H, I, rfl, q⟩)
  · cases r
    exact go (call_meets F.slot_tuple_mul ⟨_, ho, rfl⟩ F.entry_tuple_mul (F.args_tuple_mul_2 _ _) (tuple_mulE l n dd sl k t c0) ⟨ho, .ref l, H, I, rfl, q⟩)
  · have hi : its.toArray.isEmpty = false := by
      cases r with
      | nil => exact absurd rfl hne
      | cons _ _ => rfl
    have c1 : (its.toArray.isEmpty || k == 1) = false := by
      rw [hi, Bool.false_or]
      exact beq_eq_false_iff_ne.mpr (by omega)
    have c2 : (decide (k ≤ 0) || its.toArray.isEmpty) = true := by rw [decide_eq_true hk]; rfl
    refine go (call_meets F.slot_tuple_mul ⟨_, ho, rfl⟩ F.entry_tuple_mul (F.args_tuple_mul_2 _ _) (tuple_mul0 l its.toArray n dd sl k t c0 c1 c2) ⟨ho, ?_⟩)
    exact ⟨.ref s.heap.objs.size, _, I.laid (t' := s.toks) (o := .tup []) (fun b ob q => Heap.get?_push_of_some _ q) (Nat.le_refl _) ⟨Nat.zero_le _, [], .nil, IsTup.new _ _⟩, rfl, q _ (I.hok.fresh (Nat.le_refl _))⟩
def gRep : D → D → Option D
  | .tup ds, .int k => if -1000 ≤ k ∧ k ≤ 1000 ∧ ds.length ≤ 1000 then some (if k = 1 then .tup ds else .tup (List.replicate k.toNat ds).flatten) else none
  | _, _ => none
theorem dens_rep {C : Ct} {φ : List Addr} {F : Hp} {ds : List D} {vs : List V} (h : Dens C φ F ds vs) : ∀ n : Nat, Dens C φ F (List.replicate n ds).flatten (List.replicate n vs).flatten
  | 0 => by simp; exact .nil
  | n + 1 => by rw [List.replicate_succ, List.replicate_succ, List.flatten_cons, List.flatten_cons]; exact h.app (dens_rep h n)
def rOr2 (r1 r2 : R2) : R2 := fun x y H Q => r1 x y H Q ∨ r2 x y H Q
theorem op_or2 {f : Value → Value → Sem Value} {r1 r2 : R2} (h1 : OpR X f r1) (h2 : OpR X f r2) : OpR X f (rOr2 r1 r2) := by
  intro pins s σ H x y v u Q I rx ry h
  rcases h with h | h
  · exact h1 pins s σ H x y v u Q I rx ry h
  · exact h2 pins s σ H x y v u Q I rx ry h
theorem opd_rep (hK : X.K = B.C.K) : OpD B (rOr2 (rRepT X.K) (rRep0 X.K)) gRep := by
  intro F φ H ρ γ σ a b d x y Q R p q e G
  unfold gRep at e
  split at e
  · rename_i ds k
    split at e
    · rename_i hc
      cases e
      obtain ⟨l, vs, rfl, h1, h2⟩ := Pk.tup R p
      have ey := Pk.int R q
      subst ey
      rw [← hK] at h1
      have h1' : SqT X.K H l vs := sqT_same R.c.sub h1
      have hl := h2.len
      by_cases h0 : k = 1
      · subst h0
        refine .inr ⟨l, 1, vs, rfl, rfl, h1', by omega, by omega, .inl ⟨rfl, G.now R ?_⟩⟩
        rw [if_pos rfl, Den]
        rw [hK] at h1
        exact ⟨l, vs, rfl, h1, h2⟩
      · rw [if_neg h0] at G
        cases ds with
        | nil =>
          rw [Dens] at h2
          subst h2
          refine .inr ⟨l, k, [], rfl, rfl, h1', hc.1, hc.2.1, .inr (.inl ⟨rfl, G.now R ?_⟩)⟩
          rw [hK] at h1
          rw [Den]
          refine ⟨l, [], rfl, h1, ?_⟩
          have e : (List.replicate k.toNat ([] : List D)).flatten = [] := by simp
          rw [e]
          exact .nil
        | cons d0 ds =>
          have hne : vs ≠ [] := fun z => by rw [z] at hl; cases hl
          by_cases hk : k ≤ 0
          · refine .inr ⟨l, k, vs, rfl, rfl, h1', hc.1, hc.2.1, .inr (.inr ⟨hk, hne, fun p hp => ?_⟩)⟩
            have e : k.toNat = 0 := by omega
            rw [e] at G
            exact G.tup R .nil hp
          · refine .inl ⟨l, k, vs, rfl, rfl, h1', hne, by omega, hc.2.1, by rw [← hl]; exact hc.2.2, fun p hp => G.tup R (dens_rep h2 _) hp⟩
    · cases e
  · cases e
/-- a list times an int -/
def gRepL : D → D → Option D
  | .lst ds, .int k => if 0 ≤ k ∧ k ≤ 1000 ∧ ds.length ≤ 1000 then some (.lst (List.replicate k.toNat ds).flatten) else none
  | _, _ => none
theorem opd_repL : OpD B rRep gRepL := by
  intro F φ H ρ γ σ a b d x y Q R p q e G
  unfold gRepL at e
  split at e
  · rename_i ds k
    split at e
    · rename_i hc
      cases e
      obtain ⟨l, vs, rfl, h1, h2⟩ := Pk.lst R p
      have ey := Pk.int R q
      subst ey
      have hl := h2.len
      refine ⟨l, k, vs, rfl, rfl, h1, by omega, by omega, ?_, fun p hp => G.lst R (dens_rep h2 _) hp⟩
      refine Nat.le_trans ?_ SZ
      rw [← hl]
      exact Nat.le_trans (Nat.mul_le_mul hc.2.2 (by omega : k.toNat ≤ 1000)) (by decide)
    · cases e
  · cases e
def gMulA := gOr gMulI (gOr gRep gRepL)
theorem de_mulA (hK : X.K = B.C.K) (ha : PE X a (tP B W fa)) (hb : PE X b (tP B W fb)) : PE X (.BinOp a .Mult b pos) (tE B W (eOp gMulA fa fb)) := de_op (op_or2 op_mulA (op_or2 (op_or2 op_repT op_rep0) op_rep)) (OpD.or (opd_I fun _ _ h => h) (OpD.or (opd_rep hK) opd_repL)) ha hb
def gAddA := gOr gAddI (gOr gCatL (gOr gCatT gCatS))
theorem de_addA (hK : X.K = B.C.K) (ha : PE X a (tP B W fa)) (hb : PE X b (tP B W fb)) : PE X (.BinOp a .Add b pos) (tE B W (eOp gAddA fa fb)) := de_op (op_or2 op_add (op_or2 op_cat (op_or2 op_catA op_add_str))) (OpD.or opd_I0 (OpD.or opd_catL (OpD.or (opd_catT hK) opd_catS))) ha hb
end
end DL

/-! DLh: instances made by C(a, b), __init__ storing its two arguments -/
namespace DL
open PySem PySem.Spec PyProof.Rows L2
/-- __init__(self, a, b): self.f = a; self.g = b -/
def spInit (C : Addr) (f g : Str) : Sp := fun vs H Q E => ∃ x dx a b, vs = [.ref x, a, b] ∧ H x = some (.ins C dx []) ∧ Q .non (upd H x (.ins C dx [(f, a), (g, b)]))
section
variable {P : Program} {w : World} {K : PySem.W.Frag} {mg : Str → Option Value} {base : Heap} {x qual : Str} {params : Arguments} {body : List Stmt} {scope : Scope} {f : Addr} {fd : FuncData} {ps : List Str} {k : Nat} {C : Addr}
theorem upd_upd {H : Hp} {a : Addr} {u v : HO} : upd (upd H a u) a v = upd H a v := by
  funext b
  by_cases hb : b = a
  · rw [hb, upd_same, upd_same]
  · rw [upd_ne hb, upd_ne hb, upd_ne hb]
theorem fn_init {n0 n1 n2 : Str} {f1 f2 : Str} {p1 p2 p3 p4 p5 p6 p7 p8 : Pos} (Fd : FunD K x qual params [.Assign [.Attribute (.Name n0 p1) f1 p2] (.Name n1 p3) p4, .Assign [.Attribute (.Name n0 p5) f2 p6] (.Name n2 p7) p8] scope [] [] f fd) (S : FnScope [n0, n1, n2] [n0, n1, n2] scope)
    (cl : Cls K C) (na1 : NoAttr K C f1) (na2 : NoAttr K C f2) (hne : f1 ≠ f2)
    (v0 : Vis scope n0) (v1 : Vis scope n1) (v2 : Vis scope n2)
    (d0 : (n0 == ("__debug__" : Str)) = false := by decide) (c0 : (n0 == ("__classdict__" : Str)) = false := by decide) (d1 : (n1 == ("__debug__" : Str)) = false := by decide) (c1 : (n1 == ("__classdict__" : Str)) = false := by decide)
    (d2 : (n2 == ("__debug__" : Str)) = false := by decide) (c2 : (n2 == ("__classdict__" : Str)) = false := by decide)
    (hs1 : ∀ env : PySem.Env, env.scope = scope → swapsWith (.Name n1 p3) (some (.Attribute (.Name n0 p1) f1 p2)) p4.line env = pure false) (hs2 : ∀ env : PySem.Env, env.scope = scope → swapsWith (.Name n2 p7) (some (.Attribute (.Name n0 p5) f2 p6)) p8.line env = pure false) :
    FnOk P w K mg base CX0 (k + 1) f fd [n0, n1, n2] (spInit C f1 f2) := by
  refine Fd.ok S (fun vs H Q E h => ?_) (fun cdv A outer s H vs Q E hr h => ?_)
  · obtain ⟨x, dx, a, b, rfl, _⟩ := h
    rfl
  · obtain ⟨y, dx, a, b, rfl, hy, q⟩ := h
    refine ⟨_, pss_cons (ps_fld (pe_var (i := 0) rfl v0 d0 c0) (pe_var (i := 1) rfl v1 d1 c1) (hs1 _ rfl)) (pss_cons (ps_fld (pe_var (i := 0) rfl v0 d0 c0) (pe_var (i := 2) rfl v2 d2 c2) (hs2 _ rfl)) pss_nil), ?_⟩
    refine ⟨a, rfl, .ref y, rfl, y, C, dx, [], rfl, hy, cl, na1, by decide, ?_⟩
    refine ⟨b, rfl, .ref y, rfl, y, C, dx, _, rfl, upd_same, cl, na2, ?_, ?_⟩
    · show 1 < 1000
      decide
    · rw [upd_upd]
      have e : putF f2 b (putF f1 a []) = [(f1, a), (f2, b)] := by
        simp [putF, hne]
      rw [e]
      exact q
end
section
variable {X : Cx} {B : Fx} {W : WX} {f : Addr} {fd : FuncData} {ps : List Str} {k : Nat} {x : Str} {p pos : Pos} {e : Expr} {es : List Expr} {fs : Env → List D → Res (List D)}
def eMake (c : Nat) (fs : Env → List D → Res (List D)) : ESem := fun ρ γ => (fs ρ γ).bind fun ds γ => match ds with
  | [a, b] => .ok (.ins c [a, b]) γ
  | _ => .stuck
theorem de_make {c : Nat} {f1 f2 : Str} (M : Mk X.K (B.C.cls c) f) (Fn : FnOk X.prog X.w X.K X.mg X.base CX0 k f fd ps (spInit (B.C.cls c) f1 f2)) (hfl : B.C.fld c = [f1, f2]) (hr : Room (k + 1) X.A) (hg : Gl X x) (hm : X.mg x = some (.ref (B.C.cls c))) (hb : Binds X.K fd ps [])
    (ha : PA X (e :: es) (tA B W fs)) (hdb : (x == ("__debug__" : Str)) = false := by decide) (he : starEach (e :: es) X.env = (false, eval e X.env) :: starEach es X.env := by rfl) (hpl : (backTo pos (starEach es X.env)).any (·.1) = false := by rfl) :
    PE X (.Call (.Name x p) (e :: es) [] pos) (tE B W (eMake c fs)) := PE.imp (pe_make (E := fun _ _ _ => False) (dvs := []) M Fn hr hg hm hb .nil pass0 ha hdb he hpl) fun σ H Q ⟨F, φ, ρ, γ, R, P⟩ => by
  refine run1 R P fun ds γ1 vs F1 φ1 H1 x1 R1 d1 P1 => ?_
  have d1 : Dens B.C φ1 F1 ds vs := d1
  split at P1
  · rename_i a b
    intro y dx hy hdx hne
    rw [Dens] at d1
    obtain ⟨u, r, rfl, h1, d1⟩ := d1
    rw [Dens] at d1
    obtain ⟨v, r, rfl, h2, d1⟩ := d1
    rw [Dens] at d1
    subst d1
    refine ⟨y, dx, u, v, rfl, upd_same, rfl, ?_⟩
    rw [upd_upd]
    have hy' : upd H1 dx (.own y) y = none := by rw [upd_ne (Ne.symm hne)]; exact hy
    have R2 := R1.lay (o := .own y) hdx
    have R3 := R2.lay (o := .ins (B.C.cls c) dx [(f1, u), (f2, v)]) hy'
    have x2 := ext_lay (φ := φ1) (o := .own y) R1.c.sub hdx
    have x3 := ext_lay (φ := φ1) (o := .ins (B.C.cls c) dx [(f1, u), (f2, v)]) R2.c.sub hy'
    have x4 := x2.trans x3
    refine P1 _ _ φ1 _ x4 R3 ?_
    show Den _ _ _ _ _
    rw [Den]
    refine ⟨y, dx, [u, v], rfl, ?_, by rw [hfl]; exact Nat.le_refl _, .cons (Den.same x4.f x4.p _ _ h1) (.one (Den.same x4.f x4.p _ _ h2))⟩
    rw [upd_same, hfl]
    rfl
  · exact P1.elim
end
end DL

/-! DLi: cells: lists that live on and change -/
namespace DL
open PySem PySem.Spec PyProof.Rows L2
section
variable {X : Cx} {B : Fx} {W : WX} {e : Expr} {es : List Expr} {fs : Env → List D → Res (List D)} {pos : Pos} {F H : Hp} {φ : List Addr} {ρ : Env} {γ : List D} {σ : St}
/-! ### [a, b, ..] as a cell -/
def eCell (fs : Env → List D → Res (List D)) : ESem := fun ρ γ => (fs ρ γ).bind fun ds γ => if ds.length ≤ 1000000 then .ok (.cell γ.length) (γ ++ [.lst ds]) else .stuck
theorem ext_cell {p : Addr} {o : HO} (s : Same F H) (hp : H p = none) : Ext F φ H F (φ ++ [p]) (upd H p o) := by
  refine ⟨same_refl F, ⟨[p], rfl⟩, fun a u e _ _ => ?_, fun a h => .inl h, fun a h => ?_, fun a u e => ⟨u, ?_⟩⟩
  · rw [upd_ne (ne_of_none e hp)]; exact e
  · rcases List.mem_append.mp h with h | h
    · exact .inl h
    · exact .inr (by rw [List.mem_singleton.mp h]; exact hp)
  · rw [upd_ne (ne_of_none e hp)]; exact e
theorem CRel.cellNew {C : Ct} {p : Addr} {ds : List D} {vs : List V} (R : CRel C F φ H γ) (hp : H p = none) (hd : Dens C φ F ds vs) : CRel C F (φ ++ [p]) (upd H p (.lst vs)) (γ ++ [.lst ds]) := by
  have hF : F p = none := by
    cases q : F p with
    | none => rfl
    | some u => rw [R.sub _ _ q] at hp; cases hp
  have hφ : p ∉ φ := fun h => by
    obtain ⟨n, hn, e⟩ := List.mem_iff_getElem.mp h
    have hn' : n < γ.length := by rw [R.len]; exact hn
    obtain ⟨u, hu⟩ := (R.cell n γ[n] p (by simp [hn']) (by simp [hn, e])).ex
    rw [hp] at hu; cases hu
  refine ⟨fun b x e => ?_, by simp [R.len], ?_, fun a ha => ?_, fun n d a e1 e2 => ?_, R.tab.new hp⟩
  · rw [upd_ne (fun z => by rw [z, hF] at e; cases e)]; exact R.sub b x e
  · rw [List.nodup_append]
    exact ⟨R.nd, by simp, fun a ha b hb => by rw [List.mem_singleton.mp hb]; intro z; subst z; exact hφ ha⟩
  · rcases List.mem_append.mp ha with h | h
    · exact R.cF a h
    · rw [List.mem_singleton.mp h]; exact hF
  · by_cases hn : n < φ.length
    · rw [List.getElem?_append_left hn] at e2
      rw [List.getElem?_append_left (by rw [R.len]; exact hn)] at e1
      refine (R.cell n d a e1 e2).same (same_refl F) ⟨[p], rfl⟩ fun o ho => ?_
      rw [upd_ne (ne_of_none ho hp)]; exact ho
    · have e : n = φ.length := by
        obtain ⟨h, _⟩ := List.getElem?_eq_some_iff.mp e2
        simp at h
        omega
      subst e
      rw [List.getElem?_append_right (Nat.le_refl _), Nat.sub_self] at e2
      rw [List.getElem?_append_right (by rw [R.len]; exact Nat.le_refl _), R.len, Nat.sub_self] at e1
      cases e1
      cases e2
      exact ⟨vs, upd_same, Dens.same (same_refl F) ⟨[p], rfl⟩ _ _ hd⟩
theorem de_cell (h : PA X es (tA B W fs)) : PE X (.List es pos) (tE B W (eCell fs)) := PE.imp (pe_lst h) fun σ H Q ⟨F, φ, ρ, γ, R, P⟩ => by
  refine run1 R P fun ds γ1 vs F1 φ1 H1 x1 R1 d1 P1 => ?_
  have d1 : Dens B.C φ1 F1 ds vs := d1
  split at P1
  · rename_i hl
    refine ⟨by rw [← d1.len]; exact Nat.le_trans hl SZ, fun p hp => ?_⟩
    have x2 := ext_cell (φ := φ1) (o := .lst vs) R1.c.sub hp
    refine P1 _ F1 (φ1 ++ [p]) _ x2 (R1.step x2 (R1.c.cellNew hp d1)) ?_
    show Den _ _ _ _ _
    rw [Den]
    exact ⟨p, by rw [R1.c.len]; simp, rfl⟩
  · exact P1.elim
/-! ### x[i] = v, x a cell -/
theorem Rel.setCell {n : Nat} {a : Addr} {d : D} {u : HO} (R : Rel B F φ H ρ γ σ) (hn : φ[n]? = some a) (ow : Own B.C φ F (upd H a u) a d) : Ext F φ H F φ (upd H a u) ∧ Rel B F φ (upd H a u) ρ (γ.set n d) σ := by
  have ha : a ∈ φ := List.mem_of_getElem? hn
  have hF := R.c.cF a ha
  have x : Ext F φ H F φ (upd H a u) := by
    refine ⟨same_refl F, List.prefix_refl _, fun b o e nb _ => ?_, fun b h => .inl h, fun b h => .inl h, fun b o e => ?_⟩
    · rw [upd_ne (fun z => nb (by rw [z]; exact ha))]; exact e
    · by_cases hb : b = a
      · rw [hb, upd_same]; exact ⟨_, rfl⟩
      · rw [upd_ne hb]; exact ⟨o, e⟩
  have hlt0 : n < γ.length := by
    rw [R.c.len]
    exact (List.getElem?_eq_some_iff.mp hn).1
  obtain ⟨u0, hu0, nt0⟩ := (R.c.cell n γ[n] a (by simp [hlt0]) hn).exN
  refine ⟨x, R.step x ⟨fun b o e => ?_, by rw [List.length_set]; exact R.c.len, R.c.nd, R.c.cF, fun m d' b e1 e2 => ?_, R.c.tab.upd hu0 nt0⟩⟩
  · rw [upd_ne (fun z => by rw [z, hF] at e; cases e)]; exact R.c.sub b o e
  · by_cases hm : m = n
    · subst hm
      rw [hn] at e2
      cases e2
      have hlt : m < γ.length := by
        rw [R.c.len]
        exact (List.getElem?_eq_some_iff.mp hn).1
      rw [List.getElem?_set_self hlt] at e1
      cases e1
      exact ow
    · rw [List.getElem?_set_ne (Ne.symm hm)] at e1
      have hb : b ≠ a := fun z => by
        subst z
        obtain ⟨h1, h2⟩ := List.getElem?_eq_some_iff.mp e2
        obtain ⟨h3, h4⟩ := List.getElem?_eq_some_iff.mp hn
        exact hm ((List.getElem_inj R.c.nd).mp (h2.trans h4.symm))
      refine (R.c.cell m d' b e1 e2).same (same_refl F) (List.prefix_refl _) fun o ho => ?_
      rw [upd_ne hb]; exact ho
def sSetC (fo fi fv : ESem) : SSem := fun ρ γ => toOut (fv ρ γ) ρ fun v γ => toOut (fo ρ γ) ρ fun o γ => toOut (fi ρ γ) ρ fun i γ => match o, i with
  | .cell n, .int k => (match γ[n]? with
    | some (.lst ds) => (match ixN ds.length k with
      | some j => .nx ρ (γ.set n (.lst (ds.set j v)))
      | none => .stuck)
    | _ => .stuck)
  | _, _ => .stuck
theorem ds_setC {oe ke ve : Expr} {fo fk fv : ESem} {pos' : Pos} (ho : PE X oe (tE B W fo)) (hk : PE X ke (tE B W fk)) (hval : PE X ve (tE B W fv))
    (ha : ∀ v, assign (.Subscript oe ke pos') X.env v = (do
      let ov ← holding [v] (eval oe X.env)
      let iv ← holding [v, ov] (eval ke X.env)
      standAt pos'
      holding [v, ov, iv] (setItem ov iv v)
      release [v, ov, iv] []) := by intro _; rfl)
    (hs : swapsWithSole [.Subscript oe ke pos'] ve pos.line X.env = pure false := by rfl) (hw : swappedStores [.Subscript oe ke pos'] ve X.env = pure none := by rfl)
    (h1 : (assignEach [.Subscript oe ke pos'] X.env).map (·.2) = [assign (.Subscript oe ke pos') X.env] := by rfl) :
    PS X (.Assign [.Subscript oe ke pos'] ve pos) (tS B W (sSetC fo fk fv)) := PS.imp (ps_asg hval (pg_sub ho hk set_list ha) hs hw h1) fun E σ H ⟨F, φ, ρ, γ, R, P⟩ => by
  refine run1S R P fun v γ1 u F1 φ1 H1 x1 R1 d1 P1 => ?_
  refine run1S R1 P1 fun o γ2 y F2 φ2 H2 x2 R2 d2 P2 => ?_
  refine run1S R2 P2 fun i γ3 z F3 φ3 H3 x3 R3 d3 P3 => ?_
  have d3 : Den B.C φ3 F3 i z := d3
  cases o with
  | cell n =>
    cases i with
    | int k =>
      dsimp only at P3
      cases eg : γ3[n]? with
      | none => rw [eg] at P3; exact P3.elim
      | some dd =>
        rw [eg] at P3
        cases dd with
        | lst ds =>
          dsimp only at P3
          cases ej : ixN ds.length k with
          | none => rw [ej] at P3; exact P3.elim
          | some j =>
            rw [ej] at P3
            have d1' : Den B.C φ3 F3 v u := Den.same x3.f x3.p _ _ (Den.same x2.f x2.p _ _ d1)
            have d2' : Den B.C φ3 F3 (.cell n) y := Den.same x3.f x3.p _ _ d2
            obtain ⟨l, vs, rfl, h2, h3, h4⟩ := cell_lst R3 d2' eg
            rw [Den] at d3
            subst d3
            obtain ⟨x4, R4⟩ := R3.setCell (d := .lst (ds.set j v)) (u := .lst (vs.set j u)) h2 ⟨_, upd_same, h4.set d1' j⟩
            refine ⟨l, vs, k, j, rfl, rfl, h3, by rw [← h4.len]; exact ej, ?_⟩
            exact P3 σ F3 φ3 _ (same_refl _) (List.prefix_refl _) R4
        | _ => exact P3.elim
    | _ => exact P3.elim
  | _ => exact P3.elim
end
end DL

/-! DLj: a table of the module, raise -/
namespace DL
open PySem PySem.Spec PyProof.Rows L2
section
variable {X : Cx} {B : Fx} {W : WX} {i : Expr} {fi : ESem} {p pos pos' : Pos} {x : Str}
def eTab (tab : List (Str × Int)) (fi : ESem) : ESem := fun ρ γ => (fi ρ γ).bind fun d γ => match d with
  | .str z => (match tab.lookup z with
    | some i => .ok (.int i) γ
    | none => .stuck)
  | _ => .stuck
theorem de_tab {a : Addr} {tab : List (Str × Int)} (hT : ∀ z i, tab.lookup z = some i → KDct X.K X.w a z (.int i)) (hg : Gl X x) (hm : X.mg x = some (.ref a)) (hi : PE X i (tP B W fi)) (hd : (x == ("__debug__" : Str)) = false := by decide) (hs : PlainIx i := by exact fun _ _ => rfl) :
    PE X (.Subscript (.Name x p) i pos) (tE B W (eTab tab fi)) := PE.imp (pe_ix ix_kdict (pe_glob (v := .ref a) hg hm rfl hd) hi hs) fun σ H Q ⟨F, φ, ρ, γ, R, P⟩ => by
  refine run1 R P fun d γ1 v F1 φ1 H1 x1 R1 d1 P1 => ?_
  cases d with
  | str z =>
    dsimp only at P1
    cases e : tab.lookup z with
    | none => rw [e] at P1; exact P1.elim
    | some i =>
      rw [e] at P1
      exact ⟨a, z, .int i, rfl, Pk.str R1 d1, hT z i e, P1 _ F1 φ1 H1 (Ext.refl _ _ _) R1 (by show Den _ _ _ _ _; rw [Den])⟩
  | _ => exact P1.elim
theorem lookup_mem {z : Str} {i : Int} : ∀ {tab : List (Str × Int)}, tab.lookup z = some i → (z, i) ∈ tab
  | [], h => by cases h
  | (y, j) :: t, h => by
    rw [List.lookup_cons] at h
    split at h
    · rename_i hb
      cases h
      rw [beq_iff_eq.mp hb]
      simp
    · exact List.mem_cons_of_mem _ (lookup_mem h)
end
end DL

/-! DLk: what is owned is given away; short rules for the printed walks -/
namespace DL
open PySem PySem.Spec PyProof.Rows L2
section
variable {X : Cx} {B : Fx} {W : WX} {F H : Hp} {φ : List Addr} {ρ : Env} {γ : List D} {σ : St} {st : Stmt} {f : SSem}
theorem Rel.giveAway {i : Nat} {d : D} (R : Rel B F φ H ρ γ σ) (e : ρ[i]? = some (some (.mine d))) : ∃ F', Same F F' ∧ Rel B F' φ H (ρ.set i (some d)) γ σ := by
  rcases R.fz i _ e with ⟨u, _, q⟩ | ⟨d', a, q, h2, al, ow⟩
  · rw [Den] at q; exact q.elim
  cases q
  obtain ⟨o, ho, hd⟩ := ow.den al.f
  have hnt : NT o := by
    obtain ⟨o', e, n⟩ := ow.exN
    rw [ho] at e; cases e; exact n
  have sm : Same F (upd F a o) := same_upd al.f
  have hlt : i < ρ.length := (List.getElem?_eq_some_iff.mp e).1
  refine ⟨upd F a o, sm, ⟨⟨fun b x e => ?_, R.c.len, R.c.nd, fun b hb => ?_, fun n d' b e1 e2 => (R.c.cell n d' b e1 e2).same sm (List.prefix_refl _) fun o e => e, R.c.tab.frz sm ho hnt⟩, ⟨same_trans R.e.f sm, R.e.p, R.e.k, fun b hb => ?_, R.e.nφ, R.e.t⟩, by rw [List.length_set]; exact R.len, fun j d' ej => ?_, fun j k d1 d2 b hjk h1 h2' h3 => ?_⟩⟩
  · by_cases hb : b = a
    · subst hb; rw [upd_same] at e; rw [← e]; exact ho
    · rw [upd_ne hb] at e; exact R.c.sub b x e
  · have : b ≠ a := fun z => al.p (by rw [← z]; exact hb)
    rw [upd_ne this]; exact R.c.cF b hb
  · by_cases h : b = a
    · rw [h]; exact .inr al.h
    · rw [upd_ne h] at hb; exact R.e.nF b hb
  · rcases get_set ej with ⟨rfl, e2, _⟩ | ⟨hne, ej⟩
    · cases e2
      exact .inl ⟨_, h2, hd⟩
    · rcases R.fz j d' ej with ⟨v, h3, h4⟩ | ⟨d2, b, rfl, h5, al5, ow5⟩
      · exact .inl ⟨v, h3, Den.same sm (List.prefix_refl _) _ _ h4⟩
      · have hb : b ≠ a := fun z => by
          subst z
          exact R.dj j i d2 d b hne ej e h5 h2
        refine .inr ⟨d2, b, rfl, h5, ⟨by rw [upd_ne hb]; exact al5.f, al5.p, al5.h⟩, ow5.same sm (List.prefix_refl _) fun o e => e⟩
  · rcases get_set h1 with ⟨rfl, e2, _⟩ | ⟨hj, h1⟩
    · cases e2
      exfalso
      have := hd
      rw [Den] at this
      exact this
    · rcases get_set h2' with ⟨rfl, e2, _⟩ | ⟨hk, h2'⟩
      · cases e2
        exfalso
        have := hd
        rw [Den] at this
        exact this
      · exact R.dj j k d1 d2 b hjk h1 h2' h3
/-- what stands at slot i is data from here on -/
def sGive (i : Nat) (f : SSem) : SSem := fun ρ γ => match ρ[i]? with
  | some (some (.mine d)) => f (ρ.set i (some d)) γ
  | _ => .stuck
theorem ds_give (i : Nat) (h : PS X st (tS B W f)) : PS X st (tS B W (sGive i f)) := PS.imp h fun E σ H ⟨F, φ, ρ, γ, R, P⟩ => by
  unfold sGive at P
  split at P
  · rename_i d e
    obtain ⟨F', sm, R'⟩ := R.giveAway e
    exact ⟨F', φ, _, γ, R', SPost.up sm (List.prefix_refl _) P⟩
  · exact P.elim
end
/-! ### defs as they are called -/
structure Ok (C : Ct) (mg : Str → Option Value) (base : Heap) (k n : Nat) (f : Addr) (g : List D → List D → Res D) : Prop where
  ex : ∃ (fd : FuncData) (ps : List Str), FnOk C.P C.w C.K mg base (L2N.CX C.P C.w) k f fd ps (spM C n g) ∧ Binds C.K fd ps []
section
variable {X : Cx} {B : Fx} {W : WX} {e o : Expr} {es : List Expr} {fs : LSem} {fo : ESem} {p pos apos : Pos} {x m : Str} {f : Addr} {k n : Nat} {g : List D → List D → Res D}
theorem de_call (L : Lk X B) (O : Ok B.C X.mg X.base k n f g) (hr : Room k X.A) (hm : X.mg x = some (.ref f)) (hk : PySem.W.keepIn X.K (.ref f) = true) (tk : L2N.Takes X W) (ha : PA X (e :: es) (tA B W fs)) (hg : Gl X x := by rfl) (hdb : (x == ("__debug__" : Str)) = false := by decide) (he : starEach (e :: es) X.env = (false, eval e X.env) :: starEach es X.env := by rfl) (hpl : (backTo pos (starEach es X.env)).any (·.1) = false := by rfl) :
    PE X (.Call (.Name x p) (e :: es) [] pos) (tE B W (eFn n g fs)) := by
  obtain ⟨fd, ps, Fn, hb⟩ := O.ex
  rw [← L.P, ← L.w, ← L.K] at Fn
  rw [← L.K] at hb
  exact de_fn Fn hr hg hm hk hb tk ha hdb he hpl
theorem de_call0 (L : Lk X B) (O : Ok B.C X.mg X.base k n f g) (hr : Room k X.A) (hm : X.mg x = some (.ref f)) (hk : PySem.W.keepIn X.K (.ref f) = true) (tk : L2N.Takes X W) (hg : Gl X x := by rfl) (hdb : (x == ("__debug__" : Str)) = false := by decide) :
    PE X (.Call (.Name x p) [] [] pos) (tE B W (eFn n g aNil)) := by
  obtain ⟨fd, ps, Fn, hb⟩ := O.ex
  rw [← L.P, ← L.w, ← L.K] at Fn
  rw [← L.K] at hb
  exact de_fn0 Fn hr hg hm hk hb tk hdb
theorem de_v {i : Nat} (hN : X.N[i]? = some x := by rfl) (hv : Vis X.env.scope x := by first | exact .inl rfl | exact .inr (.inl rfl) | exact .inr (.inr rfl)) (hd : (x == ("__debug__" : Str)) = false := by decide) (hcd : (x == ("__classdict__" : Str)) = false := by decide) : PE X (.Name x pos) (tE B W (eVar i)) := de_var hN hv hd hcd
theorem dp_v {i : Nat} (hN : X.N[i]? = some x := by rfl) (hv : Vis X.env.scope x := by first | exact .inl rfl | exact .inr (.inl rfl) | exact .inr (.inr rfl)) (hd : (x == ("__debug__" : Str)) = false := by decide) (hcd : (x == ("__classdict__" : Str)) = false := by decide) : PE X (.Name x pos) (tP B W (eLook i)) := dp_look hN hv hd hcd
end
end DL
namespace DL
open PySem PySem.Spec PyProof.Rows L2
/-! ### a comprehension's scope, by one look -/
def blkB (N : List Str) (sc scope : Scope) (own : List (Str × Nat)) : Bool :=
  decide (scope.kind = .function) && (scope.names.all fun y => decide (scope.names.lookup y.1 = some y.2)) && (own.all fun p => decide (N[p.2]? = some p.1)) &&
  (scope.names.all fun y => decide (y.2 = .free → sc.names.lookup y.1 = some .cell ∨ sc.names.lookup y.1 = some .free)) && scope.names.all fun y => decide (y.2 = .local ∨ y.2 = .cell → y.1 ∈ own.map (·.1) ∨ y.1 ∉ N)
theorem blk_of {N : List Str} {sc scope : Scope} {own : List (Str × Nat)} (h : blkB N sc scope own = true) : BlkOk N sc scope own := by
  unfold blkB at h
  simp only [Bool.and_eq_true, List.all_eq_true, decide_eq_true_eq] at h
  obtain ⟨⟨⟨⟨h1, h2⟩, h3⟩, h4⟩, h5⟩ := h
  exact ⟨h1, h2, h3, h4, h5⟩
end DL

/-! DLl: what the printed walks use -/
namespace DL
open PySem PySem.Spec PyProof.Rows L2
section
variable {X : Cx} {B : Fx} {W : WX} {e o : Expr} {es : List Expr} {fs : LSem} {fo : ESem} {p pos apos : Pos} {x m : Str} {f : Addr} {k n : Nat} {g : List D → List D → Res D}
theorem de_gint {i : Int} (h : ∃ t, X.mg x = some (.int i t)) (hg : Gl X x := by rfl) (hd : (x == ("__debug__" : Str)) = false := by decide) : PE X (.Name x pos) (tE B W (eC (.int i))) := by
  obtain ⟨t, h⟩ := h
  exact de_glob (v := .int i) hg h ⟨t, rfl⟩ (fun _ _ => by rw [Den]) hd
/-- a tuple of texts, written in the module -/
def TupS (K : PySem.W.Frag) (a : Addr) (xs : List Str) : Prop := ∃ (o : Obj) (its : Array Value) (n : Nat), K.lookup a = some o ∧ o.cls = .type "tuple" ∧ o.data = .seq its n ∧ its.size ≤ sizeLine ∧ Vals (xs.map V.str) its.toList
theorem dens_strs {C : Ct} {φ : List Addr} {F : Hp} : ∀ xs : List Str, Dens C φ F (xs.map D.str) (xs.map V.str)
  | [] => .nil
  | x :: xs => .cons (by rw [Den]) (dens_strs xs)
theorem de_gtup {a : Addr} {xs : List Str} (L : Lk X B) (h : X.mg x = some (.ref a)) (T : TupS X.K a xs) (hg : Gl X x := by rfl) (hd : (x == ("__debug__" : Str)) = false := by decide) : PE X (.Name x pos) (tE B W (eC (.tup (xs.map D.str)))) :=
  de_glob (v := .ref a) hg h rfl (fun φ F => by rw [Den]; exact ⟨a, xs.map V.str, rfl, .inr (by rw [← L.K]; exact T), dens_strs xs⟩) hd
structure ExcF (K : PySem.W.Frag) (C : Addr) : Prop where
  q : PySem.W.excIn K C He.veBase "ValueError.__new__" = true
  kp : PySem.W.keepIn K (.ref C) = true
  sub : PySem.W.subIn K (.ref C) (.type "BaseException") = some true
  ty : PySem.W.typeIn K (.ref C) = some (.type "type")
theorem ds_raiseC {c : Nat} {mtxt : Str} {j : Nat} {p2 pos' : Pos} (hc : X.calm = true) (tk : L2N.Takes X W) (q : ExcF X.K (B.C.exc c)) (gC : X.mg x = some (.ref (B.C.exc c))) (hg : Gl X x := by rfl) (hdb : (x == ("__debug__" : Str)) = false := by decide) :
    PS X (.Raise (some (.Call (.Name x p) [.Constant (.str mtxt) j p2] [] pos')) none pos) (tS B W (sErr c)) := ds_raise hc tk (L2N.pmk_own PySem.F.excBase_ValueError q.q gC q.kp (raises_own q.sub q.ty) hg hdb)
def dLenA : List D → Option D := callOr dLen dLenN
theorem de_len (L : Lk X B) (hm : X.mg "len" = none) (ha : PA X [e] (tPs B W fs)) (gl : Gl X "len" := by rfl) (he : starEach [e] X.env = (false, eval e X.env) :: starEach [] X.env := by rfl) (hpl : (backTo pos (starEach [] X.env)).any (·.1) = false := by rfl) : PE X (.Call (.Name "len" p) [e] [] pos) (tE B W (eCall dLenA fs)) :=
  de_callB (CallR.or call_len (call_lenN L)) (CallD.or (cd_len L.K) cd_lenN) gl hm boot_len ha (by decide) (by decide) he hpl
def dLstA : List D → Option D := callOr dLst dLstK
theorem de_list (L : Lk X B) (hc : X.calm = true) (hm : X.mg "list" = none) (ha : PA X [e] (tPs B W fs)) (gl : Gl X "list" := by rfl) (he : starEach [e] X.env = (false, eval e X.env) :: starEach [] X.env := by rfl) (hpl : (backTo pos (starEach [] X.env)).any (·.1) = false := by rfl) : PE X (.Call (.Name "list" p) [e] [] pos) (tE B W (eCall dLstA fs)) :=
  de_callT (CallR.or call_list_of (call_list_dK hc)) (CallD.or (cd_list L.K) cd_listK) gl hm boot_list ha (by decide) (by decide) he hpl
theorem de_callM {c : Nat} {pl : Sem Bool} (L : Lk X B) (he : PE X o (tE B W fo)) (cl : Cls X.K (B.C.cls c)) (hm : Meth X.K (B.C.cls c) m f) (nf : m ∉ B.C.fld c) (O : Ok B.C X.mg X.base k n f g) (hr : Room k X.A) (tk : L2N.Takes X W) (ha : PA X (e :: es) (tA B W fs))
    (hst : starEach (e :: es) X.env = (false, eval e X.env) :: starEach es X.env := by rfl) (hpl : (backTo pos (starEach es X.env)).any (·.1) = false := by rfl)
    (ht : eval (.Call (.Attribute o m apos) (e :: es) [] pos) X.env = (do
      let ov ← eval o X.env
      standAt apos.atName
      let (f, first) ← holding [ov] (getMethod ov m pl)
      callWith pos f first (backTo pos (starEach (e :: es) X.env)) (backToKw pos (keywordEach [] X.env))) := by rfl) :
    PE X (.Call (.Attribute o m apos) (e :: es) [] pos) (tE B W (eMeth c n g fo fs)) := by
  obtain ⟨fd, ps, Fn, hb⟩ := O.ex
  rw [← L.P, ← L.w, ← L.K] at Fn
  rw [← L.K] at hb
  exact de_meth he cl hm nf Fn hr hb tk ha hst hpl ht
theorem de_callM0 {c : Nat} {pl : Sem Bool} (L : Lk X B) (he : PE X o (tE B W fo)) (cl : Cls X.K (B.C.cls c)) (hm : Meth X.K (B.C.cls c) m f) (nf : m ∉ B.C.fld c) (O : Ok B.C X.mg X.base k n f g) (hr : Room k X.A) (tk : L2N.Takes X W)
    (ht : eval (.Call (.Attribute o m apos) [] [] pos) X.env = (do
      let ov ← eval o X.env
      standAt apos.atName
      let (f, first) ← holding [ov] (getMethod ov m pl)
      callWith pos f first (backTo pos (starEach [] X.env)) (backToKw pos (keywordEach [] X.env))) := by rfl) :
    PE X (.Call (.Attribute o m apos) [] [] pos) (tE B W (eMeth0 c n g fo)) := by
  obtain ⟨fd, ps, Fn, hb⟩ := O.ex
  rw [← L.P, ← L.w, ← L.K] at Fn
  rw [← L.K] at hb
  exact de_meth0 he cl hm nf Fn hr hb tk ht
structure OkI (C : Ct) (mg : Str → Option Value) (base : Heap) (k : Nat) (f : Addr) (c : Nat) (f1 f2 : Str) : Prop where
  ex : ∃ (fd : FuncData) (ps : List Str), FnOk C.P C.w C.K mg base CX0 k f fd ps (spInit (C.cls c) f1 f2) ∧ Binds C.K fd ps []
theorem de_new {c : Nat} {f1 f2 : Str} (L : Lk X B) (M : Mk X.K (B.C.cls c) f) (O : OkI B.C X.mg X.base k f c f1 f2) (hfl : B.C.fld c = [f1, f2]) (hr : Room (k + 1) X.A) (hm : X.mg x = some (.ref (B.C.cls c))) (ha : PA X (e :: es) (tA B W fs)) (hg : Gl X x := by rfl) (hdb : (x == ("__debug__" : Str)) = false := by decide) (he : starEach (e :: es) X.env = (false, eval e X.env) :: starEach es X.env := by rfl) (hpl : (backTo pos (starEach es X.env)).any (·.1) = false := by rfl) :
    PE X (.Call (.Name x p) (e :: es) [] pos) (tE B W (eMake c fs)) := by
  obtain ⟨fd, ps, Fn, hb⟩ := O.ex
  rw [← L.P, ← L.w, ← L.K] at Fn
  rw [← L.K] at hb
  exact de_make M Fn hfl hr hg hm hb ha hdb he hpl
theorem de_sub2 (ha : PE X e (tP B W fo)) {fb : ESem} {b : Expr} (hb : PE X b (tP B W fb)) : PE X (.BinOp e .Sub b pos) (tE B W (eOp gSubI fo fb)) := de_subI ha hb
end
end DL

/-! DLm: comprehensions with two fors -/
namespace DL
open PySem PySem.Spec PyProof.Rows L2
def lc2S (tg : Tgt) (fi1 : LSem) (vs1 : List Nat) (tg1 : Tgt) (f : ESem) (ρ : Env) : List D → List D → List D → Res (List D)
  | [], acc, γ => .ok acc γ
  | d :: ds, acc, γ => match tg d ρ with
    | none => .stuck
    | some ρ2 => (match fi1 ρ2 γ with
      | .ok ds1 γ1 => (match lcS tg1 cYesS f (wipeE ρ2 vs1) ds1 acc γ1 with
        | .ok acc2 γ2 => lc2S tg fi1 vs1 tg1 f ρ ds acc2 γ2
        | _ => .stuck)
      | _ => .stuck)
def eLc2 (fi : LSem) (vs : List Nat) (tg : Tgt) (fi1 : LSem) (vs1 : List Nat) (tg1 : Tgt) (f : ESem) : ESem := fun ρ γ => (fi ρ γ).bind fun ds γ => (lc2S tg fi1 vs1 tg1 f (wipeE ρ vs) ds [] γ).bind fun ys γ => .ok (.lst ys) γ
section
variable {X : Cx} {B : Fx} {W : WX}
theorem wipe_sub (σ : St) {vs : List Nat} : ∀ {ws : List Nat}, (∀ i ∈ ws, i ∈ vs) → L2.wipe (L2.wipe σ ws) vs = L2.wipe σ vs
  | [], _ => rfl
  | u :: us, h => by
    show L2.wipe ((L2.wipe σ us).set u none) vs = _
    rw [wipe_set _ u _ (h u (by simp)), wipe_sub σ fun i hi => h i (by simp [hi])]
theorem wipe_eq {σ σ' : St} {ws vs : List Nat} (h : ∀ i ∈ ws, i ∈ vs) (e : L2.wipe σ ws = L2.wipe σ' ws) : L2.wipe σ vs = L2.wipe σ' vs := by
  rw [← wipe_sub σ h, e, wipe_sub σ' h]
theorem wipeE_get {ρ : Env} {j : Nat} {d : D} : ∀ {vs : List Nat}, (wipeE ρ vs)[j]? = some (some d) → ρ[j]? = some (some d) ∧ j ∉ vs
  | [], h => ⟨h, by simp⟩
  | v :: vs, h => by
    rw [wipeE] at h
    rcases get_set h with ⟨_, e, _⟩ | ⟨hn, h⟩
    · cases e
    · obtain ⟨h1, h2⟩ := wipeE_get h
      exact ⟨h1, by simp [hn, h2]⟩
/-- a target makes nothing one's own -/
def GM (C : Ct) (tg : Tgt) : Prop := ∀ (φ : List Addr) (F : Hp) (d : D) (v : V) (ρ ρ' : Env), Den C φ F d v → tg d ρ = some ρ' → ∀ (j : Nat) (d' : D), ρ'[j]? = some (some (.mine d')) → ρ[j]? = some (some (.mine d'))
theorem gm_n {C : Ct} {i : Nat} : GM C (gtN i) := by
  intro φ F d v ρ ρ' hd e j d' h
  cases e
  rcases get_set h with ⟨_, e, _⟩ | ⟨_, h⟩
  · cases e
    rw [Den] at hd
    exact hd.elim
  · exact h
theorem lc2_read {fi fi1 : LSem} {g g1 : TG} {tg tg1 : Tgt} {ws vs vs1 : List Nat} {f : ESem} (hw : ∀ i ∈ ws, i ∈ vs) (gt : GT B g tg ws) (gm : GM B.C tg) (gt1 : GT B g1 tg1 vs1) {σ : St} {H : Hp} {Q : VK} (h : tF B W (eLc2 fi vs tg fi1 vs1 tg1 f) σ H Q) :
    tLc2 (tG B W (rSrc B) fi) g (tT B W0 cYesS) (tG B W0 (rSrc B) fi1) g1 (tT B W0 cYesS) (tE B W0 f) vs vs1 σ H Q := by
  obtain ⟨F, φ, ρ, γ, R, P⟩ := h
  refine run1 R P fun ds γ1 J F1 φ1 H1 x1 R1 src P1 => ?_
  have src : SrcOk B.C φ1 F1 ds J := src
  intro L hL
  obtain ⟨ys, γf, ey⟩ : ∃ ys γf, lc2S tg fi1 vs1 tg1 f (wipeE ρ vs) ds [] γ1 = .ok ys γf := by
    have ne : ∀ (ds acc γ : List D) (k : Nat) (γ' : List D), lc2S tg fi1 vs1 tg1 f (wipeE ρ vs) ds acc γ ≠ .err k γ' := by
      intro ds
      induction ds with
      | nil => intro acc γ k γ' z; cases z
      | cons d ds ih =>
        intro acc γ k γ' z
        rw [lc2S] at z
        split at z
        · cases z
        · split at z
          · split at z
            · exact ih _ _ _ _ z
            · cases z
          · cases z
    cases e : lc2S tg fi1 vs1 tg1 f (wipeE ρ vs) ds [] γ1 with
    | ok ys γf => exact ⟨ys, γf, rfl⟩
    | err k γ' => exact absurd e (ne _ _ _ _ _)
    | stuck => rw [e] at P1; exact P1.elim
  rw [ey] at P1
  have P1 : ∀ b F' φ' H', Ext F1 φ1 H1 F' φ' H' → Rel B F' φ' H' ρ γf σ → rFr B ρ σ H1 φ' F' H' (.lst ys) b → Q b H' := P1
  refine ⟨fun i m H => m = ds.length - i ∧ i ≤ ds.length ∧ ∃ F' φ' γ' acc, LcAt B F1 φ1 H1 ρ σ L acc γ' F' φ' H ∧ lc2S tg fi1 vs1 tg1 f (wipeE ρ vs) (ds.drop i) acc γ' = .ok ys γf, ⟨ds.length, by omega, Nat.zero_le _, ?_⟩, ?_⟩
  · obtain ⟨x2, R2, al, nj⟩ := R1.layH (o := .lst []) hL
    exact ⟨F1, φ1, γ1, [], ⟨x2, R2, al, nj, hL, [], upd_same, .nil⟩, ey⟩
  · rintro i m H2 ⟨rfl, hil, F', φ', γ', acc, A, el⟩
    have sH : Same F1 H2 := same_trans A.x.f A.R.c.sub
    by_cases hlt : i < ds.length
    · refine .inr ⟨src.go i H2 hlt sH, fun H' => ∃ F' φ' γ' acc, LcAt B F1 φ1 H1 ρ σ L acc γ' F' φ' H' ∧ lc2S tg fi1 vs1 tg1 f (wipeE ρ vs) (ds.drop (i + 1)) acc γ' = .ok ys γf, fun H' hN => ⟨ds.length - (i + 1), by omega, rfl, hlt, hN⟩, fun x H' hy => ?_⟩
      have ed : ds[i]? = some ds[i] := by simp [hlt]
      rw [(List.getElem_cons_drop hlt).symm, lc2S] at el
      have fin : ∀ {F3 H3 : Hp}, LcAt B F1 φ1 H1 ρ σ L acc γ' F3 φ' H3 → Den B.C φ' F3 ds[i] x → g x (L2.wipe σ vs) H3 fun σ2 H2 => L2.wipe σ2 vs = L2.wipe σ vs ∧ tT B W0 cYesS σ2 H2 fun b H3 =>
          if b = true then tG B W0 (rSrc B) fi1 σ2 H3 fun J1 H4 => ∃ W1 : Nat → Nat → Hp → Prop, (∃ m, W1 0 m H4) ∧ ∀ j k H, W1 j k H →
            (J1.stop j H ∧ (∃ F' φ' γ' acc, LcAt B F1 φ1 H1 ρ σ L acc γ' F' φ' H ∧ lc2S tg fi1 vs1 tg1 f (wipeE ρ vs) (ds.drop (i + 1)) acc γ' = .ok ys γf)) ∨ (J1.go j H ∧ ∃ Nx1 : Hp → Prop, (∀ H', Nx1 H' → ∃ k', k' < k ∧ W1 (j + 1) k' H') ∧ ∀ x H', J1.yld j H x H' → g1 x (L2.wipe σ2 vs1) H' fun σ3 H5 => L2.wipe σ3 vs1 = L2.wipe σ2 vs1 ∧ tT B W0 cYesS σ3 H5 fun b H6 =>
              if b = true then tE B W0 f σ3 H6 fun y H7 => ∃ acc, H7 L = some (.lst acc) ∧ acc.length < sizeLine ∧ Nx1 (upd H7 L (.lst (acc ++ [y]))) else Nx1 H6)
          else (∃ F' φ' γ' acc, LcAt B F1 φ1 H1 ρ σ L acc γ' F' φ' H3 ∧ lc2S tg fi1 vs1 tg1 f (wipeE ρ vs) (ds.drop (i + 1)) acc γ' = .ok ys γf) := fun {F3 H3} A3 hd => by
        cases e : tg ds[i] (wipeE ρ vs) with
        | none => rw [e] at el; cases el
        | some ρ2 =>
          rw [e] at el
          simp only at el
          refine gt F3 φ' H3 (wipeE ρ vs) γ' (L2.wipe σ vs) ds[i] x ρ2 _ (A3.R.wipe vs) hd e fun σ4 R4 hw4 => ?_
          have hw5 : L2.wipe σ4 vs = L2.wipe σ vs := (wipe_eq hw hw4).trans (wipe_idem σ vs)
          have nj2 : ∀ (j : Nat) (d' : D), ρ2[j]? = some (some (.mine d')) → σ4[j]? ≠ some (some (.ref L)) := fun j d' hj => by
            obtain ⟨h1, h2⟩ := wipeE_get (gm _ _ _ _ _ _ hd e j d' hj)
            have e1 : σ4[j]? = σ[j]? := by rw [← L2.wipe_out (σ := σ4) h2, hw5, L2.wipe_out h2]
            rw [e1]
            exact A3.nj j d' h1
          refine ⟨hw5, F3, φ', ρ2, γ', R4, ?_⟩
          intro b F4 φ4 H4 x4 R5 eb
          cases (show true = b from eb)
          rw [if_pos rfl]
          refine ⟨F4, φ4, ρ2, γ', R5, ?_⟩
          cases e1 : fi1 ρ2 γ' with
          | err k γ2 => rw [e1] at el; cases el
          | stuck => rw [e1] at el; cases el
          | ok ds1 γ2 =>
            rw [e1] at el
            simp only at el
            intro J1 F5 φ5 H5 x5 R6 src1
            have src1 : SrcOk B.C φ5 F5 ds1 J1 := src1
            have x45 := x4.trans x5
            obtain ⟨vacc, hv1, hv2⟩ := A3.at_
            have A5 : LcAt B F1 φ1 H1 ρ σ L acc γ2 F5 φ5 H5 := ⟨A3.x.trans x45, A3.R.step x45 R6.c, A3.al.step x45 ⟨_, hv1⟩, A3.nj, A3.n0, vacc, x45.k L _ hv1 A3.al.p nt_lst, Dens.same x45.f x45.p _ _ hv2⟩
            cases e2 : lcS tg1 cYesS f (wipeE ρ2 vs1) ds1 acc γ2 with
            | err k γ3 => rw [e2] at el; cases el
            | stuck => rw [e2] at el; cases el
            | ok acc2 γ3 =>
              rw [e2] at el
              simp only at el
              refine ⟨fun j k H => k = ds1.length - j ∧ j ≤ ds1.length ∧ ∃ F' φ' γ' acc', LcAt B F1 φ1 H1 ρ σ L acc' γ' F' φ' H ∧ Same F5 F' ∧ φ5 <+: φ' ∧ Rel B F' φ' H ρ2 γ' σ4 ∧ lcS tg1 cYesS f (wipeE ρ2 vs1) (ds1.drop j) acc' γ' = .ok acc2 γ3, ⟨ds1.length, by omega, Nat.zero_le _, F5, φ5, γ2, acc, A5, same_refl _, List.prefix_refl _, R6, e2⟩, ?_⟩
              rintro j k H6 ⟨rfl, hjl, F6, φ6, γ6, acc6, A6, s6, p6, R7, el1⟩
              have sH6 : Same F5 H6 := same_trans s6 R7.c.sub
              by_cases hlt1 : j < ds1.length
              · refine .inr ⟨src1.go j H6 hlt1 sH6, fun H' => ∃ F' φ' γ' acc', LcAt B F1 φ1 H1 ρ σ L acc' γ' F' φ' H' ∧ Same F5 F' ∧ φ5 <+: φ' ∧ Rel B F' φ' H' ρ2 γ' σ4 ∧ lcS tg1 cYesS f (wipeE ρ2 vs1) (ds1.drop (j + 1)) acc' γ' = .ok acc2 γ3, fun H' hN => ⟨ds1.length - (j + 1), by omega, rfl, hlt1, hN⟩, fun x1 H' hy1 => ?_⟩
                have ed1 : ds1[j]? = some ds1[j] := by simp [hlt1]
                rw [(List.getElem_cons_drop hlt1).symm, lcS] at el1
                have fin1 : ∀ {F7 H7 : Hp}, LcAt B F1 φ1 H1 ρ σ L acc6 γ6 F7 φ6 H7 → Same F5 F7 → Rel B F7 φ6 H7 ρ2 γ6 σ4 → Den B.C φ6 F7 ds1[j] x1 → g1 x1 (L2.wipe σ4 vs1) H7 fun σ3 H5 => L2.wipe σ3 vs1 = L2.wipe σ4 vs1 ∧ tT B W0 cYesS σ3 H5 fun b H6 =>
                    if b = true then tE B W0 f σ3 H6 fun y H7 => ∃ acc, H7 L = some (.lst acc) ∧ acc.length < sizeLine ∧ (∃ F' φ' γ' acc', LcAt B F1 φ1 H1 ρ σ L acc' γ' F' φ' (upd H7 L (.lst (acc ++ [y]))) ∧ Same F5 F' ∧ φ5 <+: φ' ∧ Rel B F' φ' (upd H7 L (.lst (acc ++ [y]))) ρ2 γ' σ4 ∧ lcS tg1 cYesS f (wipeE ρ2 vs1) (ds1.drop (j + 1)) acc' γ' = .ok acc2 γ3) else (∃ F' φ' γ' acc', LcAt B F1 φ1 H1 ρ σ L acc' γ' F' φ' H6 ∧ Same F5 F' ∧ φ5 <+: φ' ∧ Rel B F' φ' H6 ρ2 γ' σ4 ∧ lcS tg1 cYesS f (wipeE ρ2 vs1) (ds1.drop (j + 1)) acc' γ' = .ok acc2 γ3) := fun {F7 H7} A7 s7 R7' hd1 => by
                  cases e3 : tg1 ds1[j] (wipeE ρ2 vs1) with
                  | none => rw [e3] at el1; cases el1
                  | some ρ3 =>
                    rw [e3] at el1
                    simp only at el1
                    refine gt1 F7 φ6 H7 (wipeE ρ2 vs1) γ6 (L2.wipe σ4 vs1) ds1[j] x1 ρ3 _ (R7'.wipe vs1) hd1 e3 fun σ5 R8 hw1 => ⟨hw1.trans (wipe_idem σ4 vs1), F7, φ6, ρ3, γ6, R8, ?_⟩
                    intro b F8 φ8 H8 x8 R9 eb
                    cases (show true = b from eb)
                    rw [if_pos rfl]
                    refine ⟨F8, φ8, ρ3, γ6, R9, ?_⟩
                    simp only [cYesS] at el1
                    cases ef : f ρ3 γ6 with
                    | err k γ7 => rw [ef] at el1; cases el1
                    | stuck => rw [ef] at el1; cases el1
                    | ok y γ7 =>
                      rw [ef] at el1
                      simp only at el1
                      by_cases hz : acc6.length < 1000000
                      · rw [if_pos hz] at el1
                        intro v F9 φ9 H9 x9 R10 hy
                        have x89 := x8.trans x9
                        obtain ⟨vacc7, hw1, hw2⟩ := A7.at_
                        have h9 : H9 L = some (.lst vacc7) := x89.k L _ hw1 A7.al.p nt_lst
                        have al9 := A7.al.step x89 ⟨_, hw1⟩
                        exact ⟨vacc7, h9, by rw [← hw2.len]; exact Nat.lt_of_lt_of_le hz SZ, F9, φ9, γ7, acc6 ++ [y], ⟨ext_upd (A7.x.trans x89) A7.n0, (A7.R.step x89 R10.c).updAlone al9 A7.nj h9 nt_lst, al9, A7.nj, A7.n0, vacc7 ++ [v], upd_same, (Dens.same x89.f x89.p _ _ hw2).app (.one hy)⟩, same_trans s7 x89.f, p6.trans x89.p, (R7'.step x89 R10.c).updAlone al9 nj2 h9 nt_lst, el1⟩
                      · rw [if_neg hz] at el1; cases el1
                rcases src1.yld j H6 x1 H' ds1[j] ed1 sH6 hy1 with ⟨rfl, hd1⟩ | ⟨T, us, es, e3, hd1, rfl, hT, rfl⟩
                · exact fin1 A6 s6 R7 (Den.same s6 p6 _ _ hd1)
                · obtain ⟨R3, h3⟩ := R7.layT hT (Dens.same s6 p6 _ _ hd1)
                  obtain ⟨vacc6, hw1, hw2⟩ := A6.at_
                  have hLT : L ≠ T := ne_of_none hw1 hT
                  rw [← e3] at h3
                  have xl := ext_lay (φ := φ6) (o := .tup us) A6.R.c.sub hT
                  exact fin1 ⟨A6.x.trans xl, A6.R.lay hT, A6.al.step xl ⟨_, hw1⟩, A6.nj, A6.n0, vacc6, by rw [upd_ne hLT]; exact hw1, Dens.same xl.f xl.p _ _ hw2⟩ (same_trans s6 xl.f) R3 h3
              · have ej : j = ds1.length := by omega
                subst ej
                rw [List.drop_length, lcS] at el1
                cases el1
                exact .inl ⟨src1.stop _ H6 (Nat.le_refl _) sH6, F6, φ6, _, _, A6, el⟩
      rcases src.yld i H2 x H' ds[i] ed sH hy with ⟨rfl, hd⟩ | ⟨T, us, es, e, hd, rfl, hT, rfl⟩
      · exact fin A (Den.same A.x.f A.x.p _ _ hd)
      · obtain ⟨R3, h3⟩ := A.R.layT hT (Dens.same A.x.f A.x.p _ _ hd)
        obtain ⟨vacc, hv1, hv2⟩ := A.at_
        have hLT : L ≠ T := ne_of_none hv1 hT
        rw [← e] at h3
        have xl := ext_lay (φ := φ') (o := .tup us) A.R.c.sub hT
        exact fin ⟨A.x.trans xl, R3, A.al.step xl ⟨_, hv1⟩, A.nj, A.n0, vacc, by rw [upd_ne hLT]; exact hv1, Dens.same xl.f xl.p _ _ hv2⟩ h3
    · have ei : i = ds.length := by omega
      subst ei
      rw [List.drop_length, lc2S] at el
      cases el
      exact .inl ⟨src.stop _ H2 (Nat.le_refl _) sH, P1 _ F' φ' H2 A.x A.R ⟨L, rfl, A.al, A.at_, A.nj, A.n0⟩⟩
theorem df_lc2 {elt tge iter tge1 iter1 : Expr} {scope : Scope} {own : List (Str × Nat)} {ws vs1 : List Nat} {pos : Pos} {fi fi1 : LSem} {g g1 : TG} {tg tg1 : Tgt} {f : ESem} (hc : X.calm = true) (hN : X.N.Nodup) (hi : PI X tge iter (tG B W (rSrc B) fi)) (ok : BlkOk X.N X.env.scope scope own) (hv : ∀ i ∈ vs1, i ∈ own.map (·.2)) (hw : ∀ i ∈ ws, i ∈ own.map (·.2))
    (hg : ∀ (s : Shared) (H : Hp) (C : Addr) (cl : List (Str × Addr)) (fp : List Addr), PG (X.blk s H scope (compEnvC scope cl C X.env) fp) tge g) (gt : GT B g tg ws) (gm : GM B.C tg)
    (hi1 : ∀ (s : Shared) (H : Hp) (C : Addr) (cl : List (Str × Addr)) (fp : List Addr), PI (X.blk s H scope (compEnvC scope cl C X.env) fp) tge1 iter1 (tG B W0 (rSrc B) fi1))
    (hg1 : ∀ (s : Shared) (H : Hp) (C : Addr) (cl : List (Str × Addr)) (fp : List Addr), PG (X.blk s H scope (compEnvC scope cl C X.env) fp) tge1 g1) (gt1 : GT B g1 tg1 vs1)
    (he : ∀ (s : Shared) (H : Hp) (C : Addr) (cl : List (Str × Addr)) (fp : List Addr), PE (X.blk s H scope (compEnvC scope cl C X.env) fp) elt (tE B W0 f)) (hs : ∀ x, foldedSetIterable iter X.env x = pure x := by intro _; rfl) (hs1 : ∀ env x, foldedSetIterable iter1 env x = pure x := by intro _ _; rfl) :
    PE X (.ListComp elt [⟨tge, iter, [], 0⟩, ⟨tge1, iter1, [], 0⟩] scope pos) (tF B W (eLc2 fi (own.map (·.2)) tg fi1 vs1 tg1 f)) := PE.imp (pe_lc2 hc hN hi ok hv hg (fun _ _ _ _ _ => dts_nil) hi1 hg1 (fun _ _ _ _ _ => dts_nil) he hs hs1) fun σ H Q h => lc2_read hw gt gm gt1 h
end
end DL

/-! DLo: enumerate, range downwards, int(..) of a truth value, two names from a list or tuple -/
namespace DL
open PySem PySem.Spec PyProof.Rows L2
section
variable {X : Cx} {B : Fx} {W : WX} {e : Expr} {es : List Expr} {fe : ESem} {fs : LSem} {p pos tpos : Pos} {kk : Nat} {elts : List Expr} {tg : Expr}
def enumD (ds : List D) : List D := ds.mapIdx fun i d => D.tup [.int (i : Nat), d]
def lEnum (fs : LSem) : LSem := fun ρ γ => (fs ρ γ).bind fun xs γ => match xs with
  | [.lst ds] => .ok (enumD ds) γ
  | _ => .stuck
theorem di_enum (hK : X.K = B.C.K) (hm : X.mg "enumerate" = none) (ha : PA X [e] (tA B W fs)) (gl : Gl X "enumerate" := by rfl) (hs : starEach [e] X.env = [(false, eval e X.env)] := by rfl) : PI X (.Tuple elts kk tpos) (.Call (.Name "enumerate" p) [e] [] pos) (tG B W (rSrc B) (lEnum fs)) := PI.imp (pi_enum gl hm ha hs) fun σ H Q ⟨F, φ, ρ, γ, R, P⟩ => by
  refine run1 R P fun xs γ1 vs F1 φ1 H1 x1 R1 d1 P1 => ?_
  have d1 : Dens B.C φ1 F1 xs vs := d1
  split at P1
  · rename_i ds _
    rw [Dens] at d1
    obtain ⟨v, r, rfl, h1, h2⟩ := d1
    rw [Dens] at h2
    subst h2
    rw [Den] at h1
    obtain ⟨a, us, rfl, h3, h4⟩ := h1
    have key : ∀ H, Same F1 H → SqL X.K H a us := fun H s => .inl (.inl (s _ _ h3))
    refine ⟨a, us, rfl, key _ R1.c.sub, P1 _ F1 φ1 H1 (Ext.refl _ _ _) R1 ⟨fun i H hi s => ?_, fun i H hi s => ⟨us, key H s, ?_⟩, fun i H x H' d ed s y => ?_⟩⟩
    · have hi' : i < us.length := by rw [← h4.len]; simpa [enumD] using hi
      exact ⟨us, us[i], key H s, List.getElem?_eq_getElem hi'⟩
    · rw [← h4.len]; simpa [enumD] using hi
    · obtain ⟨T, u, rfl, hT, rfl, hu⟩ := y
      unfold enumD at ed
      rw [List.getElem?_mapIdx] at ed
      cases q : ds[i]? with
      | none => rw [q] at ed; cases ed
      | some d0 =>
        rw [q] at ed
        cases ed
        obtain ⟨v0, q1, q2⟩ := h4.at q
        have := hu us (key H s)
        rw [q1] at this
        cases this
        exact .inr ⟨T, _, _, rfl, .cons (by rw [Den]) (.one q2), rfl, hT, rfl⟩
  · exact P1.elim
/-! ### range(i, j, -1) -/
def downD (lo : Int) (n : Nat) : List D := (List.range n).map fun (k : Nat) => D.int (lo + (k : Nat) * (-1))
def lRngD (fs : LSem) : LSem := fun ρ γ => (fs ρ γ).bind fun ds γ => match ds with
  | [.int i, .int j, .int c] => if c = -1 ∧ (-1000000 ≤ i ∧ i ≤ 1000000) ∧ -1000000 ≤ j ∧ j ≤ 1000000 then .ok (downD i (i - j).toNat) γ else .stuck
  | _ => .stuck
theorem di_rangeD {a b c : Expr} (gl : Gl X "range") (hm : X.mg "range" = none) (ha : PA X [a, b, c] (tA B W fs)) (hs : starEach [a, b, c] X.env = (false, eval a X.env) :: starEach [b, c] X.env := by rfl) (hpl : (backTo pos (starEach [b, c] X.env)).any (·.1) = false := by rfl) : PI X tg (.Call (.Name "range" p) [a, b, c] [] pos) (tG B W (rSrc B) (lRngD fs)) := PI.imp (pi_range3 gl hm ha hs hpl) fun σ H Q ⟨F, φ, ρ, γ, R, P⟩ => by
  refine run1 R P fun ds γ1 vs F1 φ1 H1 x1 R1 d1 P1 => ?_
  have d1 : Dens B.C φ1 F1 ds vs := d1
  split at P1
  · rename_i i j c _
    split at P1
    · rename_i hc
      obtain ⟨rfl, hc⟩ := hc
      rw [Dens] at d1
      obtain ⟨v, r, rfl, h1, d1⟩ := d1
      rw [Dens] at d1
      obtain ⟨v2, r, rfl, h2, d1⟩ := d1
      rw [Dens] at d1
      obtain ⟨v3, r, rfl, h3, d1⟩ := d1
      rw [Dens] at d1
      subst d1
      rw [Den] at h1 h2 h3
      subst h1 h2 h3
      have hl : (downD i (i - j).toNat).length = (i - j).toNat := by unfold downD; simp
      refine ⟨i, j, -1, (i - j).toNat, rfl, RgC.neg (by omega) (by omega) (by omega) (by omega), P1 _ F1 φ1 H1 (Ext.refl _ _ _) R1 ⟨fun k H hk s => by rw [hl] at hk; exact hk, fun k H hk s => by rw [hl] at hk; exact hk, fun k H x H' d e s y => ?_⟩⟩
      obtain ⟨rfl, rfl⟩ := y
      unfold downD at e
      rw [List.getElem?_map] at e
      cases q : (List.range (i - j).toNat)[k]? with
      | none => rw [q] at e; cases e
      | some k' =>
        rw [q] at e
        obtain ⟨h1, h2⟩ := List.getElem?_eq_some_iff.mp q
        rw [List.getElem_range] at h2
        subst h2
        cases e
        exact .inl ⟨rfl, by rw [Den]⟩
    · exact P1.elim
  · exact P1.elim
/-! ### int(..) -/
def dInt : List D → Option D
  | [.int i] => some (.int i)
  | [.bl b] => some (.int (if b = true then 1 else 0))
  | _ => none
theorem cd_int : CallD B (fun xs H Q => (∃ i, xs = [.int i] ∧ Q (.int i) H) ∨ ∃ k, xs = [.bl k] ∧ Q (.int (if k then 1 else 0)) H) dInt := by
  intro F φ H ρ γ σ ds d vs Q R p e G
  match ds, e with
  | [.int i], e =>
    cases e
    obtain ⟨v, rfl, h⟩ := p.one
    have := Pk.int R h
    subst this
    exact .inl ⟨i, rfl, G.now R (by rw [Den])⟩
  | [.bl b], e =>
    cases e
    obtain ⟨v, rfl, h⟩ := p.one
    have := Pk.bl R h
    subst this
    exact .inr ⟨b, rfl, G.now R (by rw [Den])⟩
def cIsN (f : ESem) : CSem := fun ρ γ => (f ρ γ).bind fun x γ => ofOpt (bNon x) γ
def cNotN (f : ESem) : CSem := fun ρ γ => (f ρ γ).bind fun x γ => ofOpt ((bNon x).map not) γ
theorem dt_isN {a : Expr} {fa : ESem} {j : Nat} {p2 : Pos} (ha : PE X a (tE B W fa)) : PT X (.Compare a [.Is] [.Constant .none j p2] pos) (tT B W (cIsN fa)) := PT.imp (pt_cmp (pc_isN ha) rfl) fun σ H Q ⟨F, φ, ρ, γ, R, P⟩ => by
  refine run1 R P fun x γ1 u F1 φ1 H1 x1 R1 d1 P1 => ?_
  cases e : bNon x with
  | none => rw [e] at P1; exact P1.elim
  | some k => rw [e] at P1; exact ⟨k, by rw [den_non d1 e], P1 _ F1 φ1 H1 (Ext.refl _ _ _) R1 rfl⟩
theorem dt_notN {a : Expr} {fa : ESem} {j : Nat} {p2 : Pos} (ha : PE X a (tE B W fa)) : PT X (.Compare a [.IsNot] [.Constant .none j p2] pos) (tT B W (cNotN fa)) := PT.imp (pt_cmp (pc_notN ha) rfl) fun σ H Q ⟨F, φ, ρ, γ, R, P⟩ => by
  refine run1 R P fun x γ1 u F1 φ1 H1 x1 R1 d1 P1 => ?_
  cases e : bNon x with
  | none => rw [e] at P1; exact P1.elim
  | some k => rw [e] at P1; exact ⟨!k, by rw [den_non d1 e], P1 _ F1 φ1 H1 (Ext.refl _ _ _) R1 rfl⟩
/-! ### a, b = e -/
def sTgt (tg : Tgt) (fe : ESem) : SSem := fun ρ γ => toOut (fe ρ γ) ρ fun d γ => match tg d ρ with
  | some ρ' => .nx ρ' γ
  | none => .stuck
theorem ds_unp {tge : Expr} {g : TG} {tg : Tgt} {ws : List Nat} (he : PE X e (tE B W fe)) (hg : PG X tge g) (gt : GT B g tg ws) (hs : swapsWithSole [tge] e pos.line X.env = pure false := by rfl) (hw : swappedStores [tge] e X.env = pure none := by rfl) (h1 : (assignEach [tge] X.env).map (·.2) = [assign tge X.env] := by rfl) :
    PS X (.Assign [tge] e pos) (tS B W (sTgt tg fe)) := PS.imp (ps_asg he hg hs hw h1) fun E σ H ⟨F, φ, ρ, γ, R, P⟩ => by
  refine run1S R P fun d γ1 v F1 φ1 H1 x1 R1 d1 P1 => ?_
  cases q : tg d ρ with
  | none => rw [q] at P1; exact P1.elim
  | some ρ' =>
    rw [q] at P1
    exact gt F1 φ1 H1 ρ γ1 σ d v ρ' _ R1 d1 q fun σ' R2 _ => P1 σ' F1 φ1 H1 (same_refl _) (List.prefix_refl _) R2
end
end DL

/-! DLA: a dict looked for in a list of dicts -/
namespace DL
open PySem PySem.Spec PyProof.Rows L2 PySem.W
section
open PySem.SeqAt PySem.MeetsSeq
variable {prog : Program} {w : World}
def EqI (prog : Program) (w : World) (A : Around) (s : Shared) (y x : Value) (b : Bool) : Prop := ∀ (E : Value → Shared → Prop) (Q : Bool → Shared → Prop), Q b s → wpAny (model prog w) A (eqBool y x) Q E s
theorem hasLoop (l : Addr) (items : Array Value) (n : Nat) (dd : Option Addr) (sl : Array (Option Value)) (x : Value) (e : Value → Bool) (m : Nat) :
    ∀ i : Nat, items.size - i = m → ∀ (A : Around) (R : Result → Shared → Prop) (s : Shared), s.heap.get? l = some { cls := .type "list", dict := dd, data := .seq items n, slots := sl } → (∀ y, y ∈ items → EqI prog w A.in1 s y x (e y)) → R (.ok (.ret (.bool ((items.toList.drop i).any e)))) s →
      wpAny (model prog w) A.in1 (Builtin.«list.__contains__.loop» ⟨[.ref l, x, rawInt i], []⟩) (fun fin s' => match fin with | .done f => R (.ok f) s' | .again c' => c'.quiet = true ∧ codeAny (model prog w) A c' R s') (fun e s' => R (.error e) s') s := by
  induction m with
  | zero =>
    intro i hm A R s gl he h
    obtain ⟨hp, g, d, tk, os⟩ := s
    wp_walk using wpAny_loadPart' gl
    have none_ : items[((i : Nat) : Int).toNat]? = none := by simp; omega
    have nil_ : items.toList.drop i = [] := by simp; omega
    rw [nil_] at h
    rw [none_]
    wp_walk
    exact h
  | succ m ih =>
    intro i hm A R s gl he h
    obtain ⟨hp, g, d, tk, os⟩ := s
    wp_walk using wpAny_loadPart' gl
    have lt_ : i < items.size := by omega
    have some_ : items[((i : Nat) : Int).toNat]? = some items[i] := by simp [lt_]
    have cons_ : items.toList.drop i = items[i] :: items.toList.drop (i + 1) := by simp [List.drop_eq_getElem_cons, lt_]
    rw [cons_, List.any_cons] at h
    rw [some_]
    refine wpAny_bind (he _ (Array.getElem_mem lt_) _ _ ?_)
    cases hb : e items[i] with
    | true =>
      rw [hb] at h
      wp_walk
      exact h
    | false =>
      rw [hb] at h
      have hc : ((i : Int) + 1) = ((i + 1 : Nat) : Int) := by push_cast; rfl
      wp_walk
      rw [hc]
      exact ⟨plainId_quiet plain_contains_loop _, codeAny_builtin entry_contains_loop (by
        rw [Around.under_plainId plain_contains_loop _]
        exact ih (i + 1) (by omega) A R _ gl he (by simpa using h))⟩
theorem in_listI {A : Around} {s : Shared} {E : Value → Shared → Prop} {l : Addr} {items : Array Value} {x : Value} {Q : Value → Shared → Prop} (e : Value → Bool) (hl : s.heap.IsList l items) (he : ∀ y, y ∈ items → EqI prog w A.in1 s y x (e y)) (h : Q (.bool (items.any e)) s) : wpAny (model prog w) A (compareOp .In x (.ref l)) Q E s := by
  obtain ⟨⟨cls, dd, data, sl⟩, ho, hc, n, hd⟩ := id hl
  simp only at hc hd
  subst hc hd
  have hT : s.TypeIs (.ref l) "list" := ⟨_, ho, rfl⟩
  show wpAny _ A (do return .bool (← contains (.ref l) x)) Q E s
  refine wpAny_bind (wpAny_contains_slot hT F.slot_list_contains (wpAny_call (codeAny_call_builtin F.slot_list_contains.plain F.entry_list_contains (F.slot_list_contains.check _ _ _ _ _ _ _ _ hT (F.args_list_contains_2 _ _) ?_))))
  have key : wpAny (model prog w) A.in1 (Builtin.«list.__contains__» ⟨[.ref l, x], []⟩) (fun fin s' => match fin with | .done f => wants (fun v s' => wpAny (model prog w) A (truthy v) (fun b s'' => wpAny (model prog w) A (pure (Value.bool b)) Q E s'') E s') E (.ok f) s' | .again c' => c'.quiet = true ∧ codeAny (model prog w) A c' (wants (fun v s' => wpAny (model prog w) A (truthy v) (fun b s'' => wpAny (model prog w) A (pure (Value.bool b)) Q E s'') E s') E) s') (fun e s' => wants (fun v s' => wpAny (model prog w) A (truthy v) (fun b s'' => wpAny (model prog w) A (pure (Value.bool b)) Q E s'') E s') E (.error e) s') s := by
    obtain ⟨hp, g, d, tk, os⟩ := s
    wp_walk using wpAny_loadPart' ho
    exact ⟨plainId_quiet plain_contains_loop _, codeAny_builtin entry_contains_loop (by
      rw [Around.under_plainId plain_contains_loop _]
      exact hasLoop l items n dd sl x e _ 0 rfl A _ _ ho he (wpAny_truthy_bool (wpAny_pure (by simpa using h))))⟩
  exact key
end
/-! ### a dict at an address is one dict -/
mutual
theorem nden_inj {K : PySem.W.Frag} {F : Hp} : ∀ (k k' : NestedKey) (v : V), NDen K F k v → NDen K F k' v → k = k'
  | .none, k', v, h, h' => by
    rw [NDen] at h
    subst h
    cases k' with
    | none => rfl
    | num i => rw [NDen] at h'; cases h'
    | text x => rw [NDen] at h'; cases h'
    | tup ks => rw [NDen] at h'; obtain ⟨_, _, e, _⟩ := h'; cases e
  | .num i, k', v, h, h' => by
    rw [NDen] at h
    subst h
    cases k' with
    | none => rw [NDen] at h'; cases h'
    | num j => rw [NDen] at h'; cases h'; rfl
    | text x => rw [NDen] at h'; cases h'
    | tup ks => rw [NDen] at h'; obtain ⟨_, _, e, _⟩ := h'; cases e
  | .text x, k', v, h, h' => by
    rw [NDen] at h
    subst h
    cases k' with
    | none => rw [NDen] at h'; cases h'
    | num j => rw [NDen] at h'; cases h'
    | text y => rw [NDen] at h'; cases h'; rfl
    | tup ks => rw [NDen] at h'; obtain ⟨_, _, e, _⟩ := h'; cases e
  | .tup ks, k', v, h, h' => by
    rw [NDen] at h
    obtain ⟨a, vs, rfl, ⟨o, h1, _⟩, h2⟩ := h
    cases k' with
    | none => rw [NDen] at h'; cases h'
    | num j => rw [NDen] at h'; cases h'
    | text y => rw [NDen] at h'; cases h'
    | tup ks' =>
      rw [NDen] at h'
      obtain ⟨a', vs', e, ⟨o', h3, _⟩, h4⟩ := h'
      cases e
      rw [h1] at h3
      cases h3
      rw [ndens_inj ks ks' vs h2 h4]
theorem ndens_inj {K : PySem.W.Frag} {F : Hp} : ∀ (ks ks' : List NestedKey) (vs : List V), NDens K F ks vs → NDens K F ks' vs → ks = ks'
  | [], ks', vs, h, h' => by
    rw [NDens] at h
    subst h
    cases ks' with
    | nil => rfl
    | cons k ks => rw [NDens] at h'; obtain ⟨_, _, e, _⟩ := h'; cases e
  | k :: ks, ks', vs, h, h' => by
    rw [NDens] at h
    obtain ⟨v, r, rfl, h1, h2⟩ := h
    cases ks' with
    | nil => rw [NDens] at h'; cases h'
    | cons k' ks' =>
      rw [NDens] at h'
      obtain ⟨v', r', e, h3, h4⟩ := h'
      cases e
      rw [nden_inj k k' v h1 h3, ndens_inj ks ks' r h2 h4]
end
theorem entries_inj {C : Ct} {F : Hp} : ∀ {xa xb : List (NestedKey × Addr × Value)}, xa.map (entryOfKey (nestedKind C.P C.w)) = xb.map (entryOfKey (nestedKind C.P C.w)) → (∀ x ∈ xa, NDen C.K F x.1 (.ref x.2.1)) → (∀ x ∈ xb, NDen C.K F x.1 (.ref x.2.1)) → xa = xb
  | [], [], _, _, _ => rfl
  | [], _ :: _, e, _, _ => by simp at e
  | _ :: _, [], e, _, _ => by simp at e
  | (k, a, v) :: xa, (k', a', v') :: xb, e, ha, hb => by
    rw [List.map_cons, List.map_cons] at e
    injection e with e1 e2
    have f1 : Value.ref a = Value.ref a' := congrArg DictEntry.key e1
    have f2 : v = v' := congrArg DictEntry.val e1
    cases f1
    cases f2
    have g : k = k' := nden_inj k k' _ (ha (k, a, v) (by simp)) (hb (k', a, v) (by simp))
    rw [g, entries_inj e2 (fun x hx => ha x (by simp [hx])) (fun x hx => hb x (by simp [hx]))]
theorem px_inj : ∀ {ka kb : List (NestedKey × V)} {xs : List (NestedKey × Addr × Value)}, Paired (fun (p : NestedKey × V) (q : NestedKey × Addr × Value) => p.1 = q.1 ∧ RelV p.2 q.2.2) ka xs → Paired (fun (p : NestedKey × V) (q : NestedKey × Addr × Value) => p.1 = q.1 ∧ RelV p.2 q.2.2) kb xs → (ka.all fun p => intV p.2) = true → (kb.all fun p => intV p.2) = true → ka = kb
  | _, _, _, .nil, .nil, _, _ => rfl
  | (k, v) :: ka, (k', v') :: kb, _, .cons h t, .cons h' t', ia, ib => by
    rw [List.all_cons, Bool.and_eq_true] at ia ib
    have ih := px_inj t t' ia.2 ib.2
    obtain ⟨e1, r1⟩ := h
    obtain ⟨e2, r2⟩ := h'
    simp only at e1 e2 r1 r2
    have hv : v = v' := by
      cases v with
      | int i =>
        cases v' with
        | int j =>
          obtain ⟨t, e⟩ := r1
          obtain ⟨t', e'⟩ := r2
          rw [e] at e'
          cases e'
          rfl
        | _ => cases ib.1
      | _ => cases ia.1
    rw [e1, e2, hv, ih]
theorem dicO_inj {C : Ct} {F : Hp} {o : Obj} {ka kb : List (NestedKey × V)} (h : DicO C F o ka) (h' : DicO C F o kb) (ia : (ka.all fun p => intV p.2) = true) (ib : (kb.all fun p => intV p.2) = true) : ka = kb := by
  obtain ⟨xa, _, ⟨es, ep, d1, e1⟩, _, n1, p1⟩ := h
  obtain ⟨xb, _, ⟨es', ep', d2, e2⟩, _, n2, p2⟩ := h'
  rw [d1] at d2
  cases d2
  have e := entries_inj (e1.symm.trans e2) (fun x hx => (n1 x hx).1) (fun x hx => (n2 x hx).1)
  subst e
  exact px_inj p1 p2 ia ib
theorem find_nodup : ∀ {ka : List (NestedKey × V)}, (ka.map (·.1)).Nodup → ∀ p ∈ ka, ka.find? (fun q => decide (q.1 = p.1)) = some p
  | q :: ka, nd, p, hp => by
    rw [List.map_cons, List.nodup_cons] at nd
    by_cases h : q.1 = p.1
    · rw [List.find?_cons_of_pos (by simpa using h)]
      rcases List.mem_cons.mp hp with z | z
      · rw [z]
      · exact absurd (by rw [h]; exact List.mem_map.mpr ⟨p, z, rfl⟩) nd.1
    · rw [List.find?_cons_of_neg (by simpa using h)]
      rcases List.mem_cons.mp hp with z | z
      · exact absurd (by rw [z]) h
      · exact find_nodup nd.2 p z
theorem eqDic_self {ka : List (NestedKey × V)} (nd : (ka.map (·.1)).Nodup) (ia : (ka.all fun p => intV p.2) = true) : eqDic ka ka = true := by
  unfold eqDic
  rw [Bool.and_eq_true]
  refine ⟨by simp, List.all_eq_true.mpr fun p hp => ?_⟩
  have e : dget ka p.1 = some p.2 := by
    unfold dget
    rw [find_nodup nd p hp]
    rfl
  have hi := List.all_eq_true.mp ia p hp
  rw [e]
  cases q : p.2 with
  | int i => simp [eqV]
  | _ => rw [q] at hi; cases hi
theorem px_keysA : ∀ {ka : List (NestedKey × V)} {xs : List (NestedKey × Addr × Value)}, Paired (fun (p : NestedKey × V) (q : NestedKey × Addr × Value) => p.1 = q.1 ∧ RelV p.2 q.2.2) ka xs → ka.map (·.1) = xs.map (·.1)
  | _, _, .nil => rfl
  | _, _, .cons h t => by rw [List.map_cons, List.map_cons, px_keysA t, h.1]
theorem dicO_nd {C : Ct} {F : Hp} {o : Obj} {ka : List (NestedKey × V)} (h : DicO C F o ka) : (ka.map (·.1)).Nodup := by
  obtain ⟨xa, _, _, nd, _, p⟩ := h
  rw [px_keysA p]
  exact nd
/-! ### in -/
section
variable {X : Cx} {B : Fx} {W : WX} {a b : Expr} {fa fb : ESem} {pos : Pos}
def DicAt (B : Fx) (F H : Hp) (ka : List (NestedKey × V)) (v : V) : Prop := ∃ a oa, v = .ref a ∧ (a == sysModules) = false ∧ H a = some (knO a oa) ∧ DicO B.C F oa ka ∧ (ka.all fun p => intV p.2) = true
def rInDic (K : PySem.W.Frag) (B : Fx) : R2 := fun x y H Q => ∃ F l kb kys ys, Same F H ∧ DicAt B F H kb x ∧ y = .ref l ∧ SqL K H l ys ∧ Paired (DicAt B F H) kys ys ∧ Q (.bl (kys.any fun ka => eqDic ka kb)) H
theorem knO_inj {a : Addr} {o o' : Obj} {h : Heap} (e : knO a o = knO a o') (g : h.get? a = some o) : o = o' := by
  unfold knO at e
  have f := HO.ext.inj e
  have : h.get? a = some o' := by
    have z := congrFun f h
    exact (show (h.get? a = some o) = (h.get? a = some o') from z) ▸ g
  rw [g] at this
  exact Option.some.inj this
theorem op_inDic (L : Lk X B) (hu : X.A.units + 64 < cLine) : OpR X (compareOp .In) (rInDic X.K B) := by
  intro pins s σ H x y v u Q I rx ry h
  obtain ⟨F, l, kb, kys, ys, sm, ⟨ab, ob, rfl, b0, b1, b2, ib⟩, rfl, hq, hp, q⟩ := h
  obtain rfl : v = Value.ref ab := rx
  obtain rfl : u = Value.ref l := ry
  obtain ⟨its, r, pl, hz⟩ := I.list hq
  open Classical in
  have main : ∀ (kys : List (List (NestedKey × V))) (ys : List V) (its : List Value), Paired (DicAt B F H) kys ys → Vals ys its → (∀ w ∈ its, EqI X.prog X.w X.A.in1 s w (.ref ab) (decide (∃ a oa ka, w = Value.ref a ∧ H a = some (knO a oa) ∧ DicO B.C F oa ka ∧ (ka.all fun p => intV p.2) = true ∧ eqDic ka kb = true))) ∧
      its.any (fun w => decide (∃ a oa ka, w = Value.ref a ∧ H a = some (knO a oa) ∧ DicO B.C F oa ka ∧ (ka.all fun p => intV p.2) = true ∧ eqDic ka kb = true)) = kys.any fun ka => eqDic ka kb := by
    intro kys ys its hp r
    induction hp generalizing its with
    | nil => cases r; exact ⟨(fun w h => by cases h), rfl⟩
    | @cons ka y kys ys hk _ ih =>
      obtain ⟨a, oa, rfl, a0, a1, a2, ia⟩ := hk
      cases r with
      | @cons _ u _ us ru rr =>
        obtain rfl : u = Value.ref a := ru
        obtain ⟨h1, h2⟩ := ih us rr
        have val : decide (∃ a' oa' ka', Value.ref a = Value.ref a' ∧ H a' = some (knO a' oa') ∧ DicO B.C F oa' ka' ∧ (ka'.all fun p => intV p.2) = true ∧ eqDic ka' kb = true) = eqDic ka kb := by
          cases e : eqDic ka kb with
          | true => exact decide_eq_true ⟨a, oa, ka, rfl, a1, a2, ia, e⟩
          | false =>
            refine decide_eq_false ?_
            rintro ⟨a', oa', ka', z, g1, g2, g3, g4⟩
            cases z
            rw [a1] at g1
            have eo : oa = oa' := knO_inj (Option.some.inj g1) (I.hok a _ a1).1
            subst eo
            have := dicO_inj a2 g2 ia g3
            subst this
            rw [e] at g4
            cases g4
        refine ⟨fun w hw => ?_, ?_⟩
        · rcases List.mem_cons.mp hw with z | z
          · subst z
            rw [val]
            intro E Q hQ
            by_cases hab : a = ab
            · subst hab
              have eo : oa = ob := knO_inj (Option.some.inj (a1.symm.trans b1)) (I.hok a _ a1).1
              subst eo
              have ek := dicO_inj a2 b2 ia ib
              subst ek
              rw [eqDic_self (dicO_nd a2) ia] at hQ
              exact SeqAt.EqAt.same (.ref a) X.prog X.w E Q hQ
            · obtain ⟨xa, hA, pxa, _⟩ := dic_at L I sm a1 a2
              obtain ⟨xb, hB, pxb, _⟩ := dic_at L I sm b1 b2
              unfold eqBool
              refine wpAny_holding ?_
              refine wpAny_ite_split (fun z => absurd (by have := eq_of_beq z; injection this) hab) (fun _ => ?_)
              refine wpAny_bind ?_
              refine neq_eq (A := X.A.in1) (knd := nestedKind X.prog X.w) (by show X.A.units + 1 + 1 + 8 < cLine; omega) a0 b0 hA hB (show X.A.units + 1 < cLine by omega) (fun _ => hits_of pxb ib pxa ia) ?_
              refine wpAny_truthy_bool ?_
              rw [← px_len pxa, ← px_len pxb]
              exact hQ
          · exact h1 w z
        · rw [List.any_cons, List.any_cons, h2, val]
  obtain ⟨m1, m2⟩ := main kys ys its hp r
  refine in_listI _ pl.isList (fun w hw => m1 w (by simpa using hw)) ⟨.bl _, H, I, rfl, ?_⟩
  rw [show ∀ f : Value → Bool, its.toArray.any f = its.any f from fun f => by simp, m2]
  exact q
def dicsOf : List D → Option (List (List (NestedKey × V)))
  | [] => some []
  | .dic ka :: ds => if (ka.all fun p => intV p.2) = true then (dicsOf ds).map (ka :: ·) else none
  | _ => none
def dInA : D → D → Option Bool
  | .dic kb, .lst ds => if (kb.all fun p => intV p.2) = true then (dicsOf ds).map fun kys => kys.any fun ka => eqDic ka kb else none
  | x, y => dIn x y
theorem dicsOf_at {F H : Hp} {φ : List Addr} (sm : Same F H) : ∀ {ds : List D} {kys : List (List (NestedKey × V))} {vs : List V}, dicsOf ds = some kys → Dens B.C φ F ds vs → Paired (DicAt B F H) kys vs
  | [], kys, vs, e, h => by
    rw [Dens] at h
    subst h
    cases e
    exact .nil
  | .dic ka :: ds, kys, vs, e, h => by
    rw [dicsOf] at e
    split at e
    · rename_i hi
      cases q : dicsOf ds with
      | none => rw [q] at e; cases e
      | some ks =>
        rw [q] at e
        cases e
        rw [Dens] at h
        obtain ⟨v, r, rfl, h1, h2⟩ := h
        rw [Den] at h1
        obtain ⟨a, o, rfl, a0, a1, a2⟩ := h1
        exact .cons ⟨a, o, rfl, a0, sm _ _ a1, a2, hi⟩ (dicsOf_at sm q h2)
    · cases e
  | .non :: _, _, _, e, _ => by simp [dicsOf] at e
  | .bl _ :: _, _, _, e, _ => by simp [dicsOf] at e
  | .int _ :: _, _, _, e, _ => by simp [dicsOf] at e
  | .str _ :: _, _, _, e, _ => by simp [dicsOf] at e
  | .tup _ :: _, _, _, e, _ => by simp [dicsOf] at e
  | .lst _ :: _, _, _, e, _ => by simp [dicsOf] at e
  | .dik _ _ :: _, _, _, e, _ => by simp [dicsOf] at e
  | .ins _ _ :: _, _, _, e, _ => by simp [dicsOf] at e
  | .cell _ :: _, _, _, e, _ => by simp [dicsOf] at e
  | .raw _ :: _, _, _, e, _ => by simp [dicsOf] at e
  | .scr _ :: _, _, _, e, _ => by simp [dicsOf] at e
  | .mine _ :: _, _, _, e, _ => by simp [dicsOf] at e
  | .nk _ :: _, _, _, e, _ => by simp [dicsOf] at e
theorem opb_inA (hK : X.K = B.C.K) : OpB B (rOr2 (rIn X.K false) (rInDic X.K B)) dInA := by
  intro F φ H ρ γ σ a b k x y Q R p q e G
  unfold dInA at e
  split at e
  · rename_i kb ds
    split at e
    · rename_i hi
      cases z : dicsOf ds with
      | none => rw [z] at e; cases e
      | some kys =>
        rw [z] at e
        cases e
        obtain ⟨a, oa, rfl, a0, a1, a2⟩ := Pk.dic R p
        obtain ⟨l, vs, rfl, h1, h2⟩ := Pk.lst R q
        exact .inr ⟨F, l, kb, kys, vs, R.c.sub, ⟨a, oa, rfl, a0, a1, a2, hi⟩, rfl, .inl (.inl h1), dicsOf_at R.c.sub z h2, G⟩
    · cases e
  · exact .inl (opb_in hK F φ H ρ γ σ _ _ k x y Q R p q e G)
theorem de_inA (L : Lk X B) (hu : X.A.units + 64 < cLine) (ha : PE X a (tP B W fa)) (hb : PE X b (tP B W fb)) (hm : behindInMarks .In b = false := by rfl) : PE X (.Compare a [.In] [b] pos) (tE B W (eCmp dInA fa fb)) := de_cmp (op_or2 op_in_seq (op_inDic L hu)) (opb_inA L.K) ha hb hm
theorem dt_inA (L : Lk X B) (hu : X.A.units + 64 < cLine) (ha : PE X a (tP B W fa)) (hb : PE X b (tP B W fb)) (hm : behindInMarks .In b = false := by rfl) : PT X (.Compare a [.In] [b] pos) (tT B W (cCmp dInA fa fb)) := dt_cmp (op_or2 op_in_seq (op_inDic L hu)) (opb_inA L.K) ha hb hm
end
end DL

/-! DLB: texts: join, split, str(..), int(text), in, text * int -/
namespace DL
open PySem PySem.Spec PyProof.Rows L2
section
variable {X : Cx} {B : Fx} {W : WX} {a b e o : Expr} {fa fb fe fo : ESem} {pos apos : Pos}
/-- the texts of a list of data -/
def D.strs : List D → Option (List Str)
  | [] => some []
  | .str x :: ds => (D.strs ds).map (x :: ·)
  | _ => none
theorem strs_den {C : Ct} {φ : List Addr} {F : Hp} : ∀ {ds : List D} {ys : List Str} {vs : List V}, D.strs ds = some ys → Dens C φ F ds vs → vs = ys.map V.str
  | [], ys, vs, e, h => by
    rw [Dens] at h
    subst h
    cases e
    rfl
  | .str x :: ds, ys, vs, e, h => by
    rw [D.strs] at e
    cases q : D.strs ds with
    | none => rw [q] at e; cases e
    | some zs =>
      rw [q] at e
      cases e
      rw [Dens] at h
      obtain ⟨v, r, rfl, h1, h2⟩ := h
      rw [Den] at h1
      rw [h1, strs_den q h2]
      rfl
  | .non :: _, _, _, e, _ => by simp [D.strs] at e
  | .bl _ :: _, _, _, e, _ => by simp [D.strs] at e
  | .int _ :: _, _, _, e, _ => by simp [D.strs] at e
  | .dic _ :: _, _, _, e, _ => by simp [D.strs] at e
  | .tup _ :: _, _, _, e, _ => by simp [D.strs] at e
  | .lst _ :: _, _, _, e, _ => by simp [D.strs] at e
  | .dik _ _ :: _, _, _, e, _ => by simp [D.strs] at e
  | .ins _ _ :: _, _, _, e, _ => by simp [D.strs] at e
  | .cell _ :: _, _, _, e, _ => by simp [D.strs] at e
  | .raw _ :: _, _, _, e, _ => by simp [D.strs] at e
  | .scr _ :: _, _, _, e, _ => by simp [D.strs] at e
  | .mine _ :: _, _, _, e, _ => by simp [D.strs] at e
  | .nk _ :: _, _, _, e, _ => by simp [D.strs] at e
def eJoin (fo fe : ESem) : ESem := fun ρ γ => (fo ρ γ).bind fun x γ => match x with
  | .str z => (fe ρ γ).bind fun y γ => (match y with
    | .lst ds => (match D.strs ds with
      | some ys => if (ys.map (·.length)).sum + ys.length * z.length ≤ 1000000 then .ok (.str (Txt.join z ys)) γ else .stuck
      | none => .stuck)
    | _ => .stuck)
  | _ => .stuck
theorem de_join (ho : PE X o (tE B W fo)) (he : PE X e (tE B W fe)) (hs : starEach [e] X.env = [(false, eval e X.env)] := by rfl) (hbase : attributeBase o "join" X.env (eval o X.env) = eval o X.env := by rfl) (hline : (apos.endLine == pos.line) = true := by rfl) :
    PE X (.Call (.Attribute o "join" apos) [e] [] pos) (tE B W (eJoin fo fe)) := PE.imp (pe_join ho he hs hbase hline) fun σ H Q ⟨F, φ, ρ, γ, R, P⟩ => by
  refine run1 R P fun d γ1 v F1 φ1 H1 x1 R1 d1 P1 => ?_
  cases d with
  | str z =>
    have d1 : Den B.C φ1 F1 (.str z) v := d1
    rw [Den] at d1
    subst d1
    refine ⟨⟨z, rfl⟩, ?_⟩
    refine run1 R1 P1 fun d2 γ2 v2 F2 φ2 H2 x2 R2 e2 P2 => ?_
    cases d2 with
    | lst ds =>
      dsimp only at P2
      cases q : D.strs ds with
      | none => rw [q] at P2; exact P2.elim
      | some ys =>
        rw [q] at P2
        dsimp only at P2
        split at P2
        · rename_i hz
          have e2 : Den B.C φ2 F2 (.lst ds) v2 := e2
          rw [Den] at e2
          obtain ⟨l, vs, rfl, h1, h2⟩ := e2
          have ev := strs_den q h2
          subst ev
          exact ⟨z, l, ys, rfl, rfl, .inl (.inl (.inl (R2.c.sub _ _ h1))), by omega, P2 _ F2 φ2 H2 (Ext.refl _ _ _) R2 (by show Den _ _ _ _ _; rw [Den])⟩
        · exact P2.elim
    | _ => exact P2.elim
  | _ => exact P1.elim
def eSplit (fo fe : ESem) : ESem := fun ρ γ => (fo ρ γ).bind fun x γ => match x with
  | .str z => (fe ρ γ).bind fun y γ => (match y with
    | .str s => if (s.length == 0) = false ∧ z.length ≤ 100000 then .ok (.lst ((Txt.split z s).map D.str)) γ else .stuck
    | _ => .stuck)
  | _ => .stuck
theorem de_split (ho : PE X o (tE B W fo)) (he : PE X e (tE B W fe)) (hs : starEach [e] X.env = [(false, eval e X.env)] := by rfl) (hbase : attributeBase o "split" X.env (eval o X.env) = eval o X.env := by rfl) (hline : (apos.endLine == pos.line) = true := by rfl) :
    PE X (.Call (.Attribute o "split" apos) [e] [] pos) (tE B W (eSplit fo fe)) := PE.imp (pe_split ho he hs hbase hline) fun σ H Q ⟨F, φ, ρ, γ, R, P⟩ => by
  refine run1 R P fun d γ1 v F1 φ1 H1 x1 R1 d1 P1 => ?_
  cases d with
  | str z =>
    have d1 : Den B.C φ1 F1 (.str z) v := d1
    rw [Den] at d1
    subst d1
    refine ⟨⟨z, rfl⟩, ?_⟩
    refine run1 R1 P1 fun d2 γ2 v2 F2 φ2 H2 x2 R2 e2 P2 => ?_
    cases d2 with
    | str s =>
      dsimp only at P2
      split at P2
      · rename_i hz
        have e2 : Den B.C φ2 F2 (.str s) v2 := e2
        rw [Den] at e2
        subst e2
        refine ⟨z, s, rfl, rfl, hz.1, Nat.le_trans (by omega) SZ, fun p hp => ?_⟩
        have hF : F2 p = none := R2.fnone hp
        refine P2 _ (upd F2 p (.lst ((Txt.split z s).map V.str))) φ2 _ (ext_lay R2.c.sub hp) (R2.lay hp) ?_
        show Den _ _ _ _ _
        rw [Den]
        exact ⟨p, _, rfl, upd_same, dens_strs _⟩
      · exact P2.elim
    | _ => exact P2.elim
  | _ => exact P1.elim
/-! ### str(..), int(..) -/
def dStrA : List D → Option D
  | [.int i] => if i.natAbs.log2 < 1920 then some (.str (toString i)) else none
  | [.str x] => some (.str x)
  | _ => none
theorem call_strA : CallR X (.type "str") (fun xs H Q => (∃ i, xs = [.int i] ∧ i.natAbs.log2 < 1920 ∧ Q (.str (toString i)) H) ∨ ∃ z, xs = [.str z] ∧ Q (.str z) H) := CallR.or call_str_int SkE.call_str_str
theorem cd_strA : CallD B (fun xs H Q => (∃ i, xs = [.int i] ∧ i.natAbs.log2 < 1920 ∧ Q (.str (toString i)) H) ∨ ∃ z, xs = [.str z] ∧ Q (.str z) H) dStrA := by
  intro F φ H ρ γ σ ds d vs Q R p e G
  match ds, e with
  | [.int i], e =>
    rw [dStrA] at e
    split at e
    · rename_i hz
      cases e
      obtain ⟨v, rfl, h⟩ := p.one
      have := Pk.int R h
      subst this
      exact .inl ⟨i, rfl, hz, G.now R (by rw [Den])⟩
    · cases e
  | [.str x], e =>
    cases e
    obtain ⟨v, rfl, h⟩ := p.one
    have := Pk.str R h
    subst this
    exact .inr ⟨x, rfl, G.now R (by rw [Den])⟩
def dIntT : List D → Option D
  | [.str z] => if z.length ≤ 640 then (PySem.intText? z).map D.int else none
  | _ => none
theorem cd_intT : CallD B (fun xs H Q => ∃ z n, xs = [.str z] ∧ PySem.intText? z = some n ∧ z.length ≤ 640 ∧ Q (.int n) H) dIntT := by
  intro F φ H ρ γ σ ds d vs Q R p e G
  match ds, e with
  | [.str z], e =>
    rw [dIntT] at e
    split at e
    · rename_i hz
      cases q : PySem.intText? z with
      | none => rw [q] at e; cases e
      | some n =>
        rw [q] at e
        cases e
        obtain ⟨v, rfl, h⟩ := p.one
        have := Pk.str R h
        subst this
        exact ⟨z, n, rfl, q, hz, G.now R (by rw [Den])⟩
    · cases e
def dIntA : List D → Option D := callOr dInt dIntT
/-! ### one sign in a text -/
def dInT : D → D → Option Bool
  | .str ⟨⟨[c]⟩⟩, .str z => some (decide (c ∈ z.cps.toList))
  | _, _ => none
theorem opb_inT : OpB B (fun x y H Q => ∃ (c : Nat) (z : Str), x = .str ⟨#[c]⟩ ∧ y = .str z ∧ Q (.bl (decide (c ∈ z.cps.toList))) H) dInT := by
  intro F φ H ρ γ σ a b k x y Q R p q e G
  unfold dInT at e
  split at e
  · rename_i c z
    cases e
    exact ⟨c, z, Pk.str R p, Pk.str R q, G⟩
  · cases e
/-! ### a text times an int -/
def repS (x : Str) (n : Int) : Str := ⟨(List.replicate n.toNat x.cps).foldl (· ++ ·) #[]⟩
theorem len_fold (c : Array Nat) : ∀ (m : Nat) (acc : Array Nat), ((List.replicate m c).foldl (· ++ ·) acc).size = acc.size + m * c.size
  | 0, acc => by simp
  | m + 1, acc => by
    rw [List.replicate_succ, List.foldl_cons, len_fold c m (acc ++ c), Array.size_append, Nat.succ_mul]
    omega
theorem len_repS (x : Str) (n : Int) : (⟨(List.replicate n.toNat x.cps).foldl (· ++ ·) #[]⟩ : Str).length = n.toNat * x.length := by
  show Array.size _ = _
  rw [len_fold]
  simp
  rfl
def rRepS : R2 := fun x y H Q => ∃ z n, x = .str z ∧ y = .int n ∧ 2 ≤ n ∧ n ≤ 10000 ∧ 1 ≤ z.length ∧ z.length ≤ 10 ∧ Q (.str (repS z n)) H
theorem op_repS : OpR X (binaryOp .Mult) rRepS := by
  intro pins s σ H x y v u Q I rx ry h
  obtain ⟨z, n, rfl, rfl, h1, h2, h3, h4, q⟩ := h
  obtain ⟨t, rfl⟩ := rx
  obtain ⟨t', rfl⟩ := ry
  have hn : ¬ n < 1 := by omega
  have hne : (n == 1 || z.length == 0) = false := by
    rw [Bool.or_eq_false_iff]
    constructor
    · exact beq_eq_false_iff_ne.mpr (by omega)
    · exact beq_eq_false_iff_ne.mpr (by omega)
  have hm : z.length * n.toNat ≤ 10 * 10000 := Nat.mul_le_mul h4 (by omega)
  refine PySem.P.mul_str (by rw [decide_eq_false (by omega), decide_eq_false (by omega)]; rfl) (fun _ _ => ?_) (fun _ _ => ?_) ?_
  · have : (10 : Int) ≤ (2 ^ 63 - 1) / n := by
      refine Int.le_ediv_of_mul_le (by omega) ?_
      omega
    omega
  · have hz := SZ
    show decide (z.length * n.toNat > sizeLine) = false
    rw [decide_eq_false (by omega)]
  · rw [if_neg hn, if_neg (by rw [hne]; exact Bool.false_ne_true)]
    refine ⟨?_, ?_⟩
    · have hz := SZ
      rw [len_repS, Nat.mul_comm]
      omega
    · exact ⟨.str _, H, I.tok _, ⟨_, rfl⟩, q⟩
def gRepS : D → D → Option D
  | .str z, .int n => if 2 ≤ n ∧ n ≤ 10000 ∧ 1 ≤ z.length ∧ z.length ≤ 10 then some (.str (repS z n)) else none
  | _, _ => none
theorem opd_repS : OpD B rRepS gRepS := by
  intro F φ H ρ γ σ a b d x y Q R p q e G
  unfold gRepS at e
  split at e
  · rename_i z n
    split at e
    · rename_i hc
      cases e
      exact ⟨z, n, Pk.str R p, Pk.int R q, hc.1, hc.2.1, hc.2.2.1, hc.2.2.2, G.now R (by rw [Den])⟩
    · cases e
  · cases e
theorem de_repS (ha : PE X a (tP B W fa)) (hb : PE X b (tP B W fb)) : PE X (.BinOp a .Mult b pos) (tE B W (eOp gRepS fa fb)) := de_op op_repS opd_repS ha hb
theorem de_inT (ha : PE X a (tP B W fa)) (hb : PE X b (tP B W fb)) (hm : behindInMarks .In b = false := by rfl) : PE X (.Compare a [.In] [b] pos) (tE B W (eCmp dInT fa fb)) := de_cmp op_in_sign opb_inT ha hb hm
theorem dt_inT (ha : PE X a (tP B W fa)) (hb : PE X b (tP B W fb)) (hm : behindInMarks .In b = false := by rfl) : PT X (.Compare a [.In] [b] pos) (tT B W (cCmp dInT fa fb)) := dt_cmp op_in_sign opb_inT ha hb hm
end
end DL

/-! DLq: while an exception is handled: list walks, comprehensions, sum -/
namespace DL
open PySem PySem.Spec PyProof.Rows L2 L2H HotX
section
variable {prog : Program} {w : World} {A : Around} {E : Value → Shared → Prop} {s : Shared}
/-- a list's iterator at its end, while an exception is handled -/
theorem nextEndZ {it l x1 : Addr} {i : Nat} {items : Array Value} {Q : Option Value → Shared → Prop} (hot : HotAt A x1 s.heap) (hit : s.heap.IsListIter it l i) (hl : s.heap.IsList l items) (hx : items[i]? = none)
    (hQ : ∀ h', Heap.ExtBut it s.heap h' → Q none { s with heap := h' }) : wpAny (model prog w) A (pyNext (.ref it)) Q E s := by
  obtain ⟨hh, o1, us1, g1, e1, n1⟩ := hot
  obtain ⟨oi, gi, ci, di⟩ := id hit
  obtain ⟨ol, gl, _, nl, dl⟩ := hl
  have ne : x1 ≠ it := fun z => by
    subst z
    rw [g1] at gi
    cases gi
    rw [e1] at di
    cases di
    simp at n1
  unfold pyNext
  refine wpAny_bind (wpAny_attempt (wpAny_callSpecial?_slot (name := Str.ofString "__next__") hit.typeIs slot_listiter_next (wpAny_call_entry slot_listiter_next hit.typeIs entry_listiter_next ?_ (args_listiter_next _))))
  show wpAny _ _ (field (.ref it) 0 >>= _) _ _ _
  refine wpAny_bind (wpAny_field gi di (x := .ref l) rfl ?_)
  show wpAny _ _ (if (Value.ref l == Value.none) = true then _ else _) _ _ _
  have hbn : (Value.ref l == Value.none) = false := rfl
  rw [hbn, if_neg Bool.false_ne_true]
  show wpAny _ _ (field (.ref it) 1 >>= _) _ _ _
  refine wpAny_bind (wpAny_field gi di (x := .int i 0) rfl ?_)
  show wpAny _ _ (seqItems? (.ref l) >>= _) _ _ _
  refine wpAny_bind (wpAny_seqItems gl dl ?_)
  simp only [hx, Int.toNat_natCast]
  refine wpAny_bind (wpAny_rule (wpAny_bind (wpAny_setField gi di (by simp) ?_)))
  show wpAny _ _ (newExc (.type "StopIteration") [] >>= _) _ _ _
  refine wpAny_bind ?_
  simp only [newTuple, newExc]
  refine wpAny_bind (wpAny_newObj_type ?_ (by size_fits))
  refine wpAny_bind (m := firstArgMember _ _) (wpAny_of_eq (a := Value.none) (by first | rfl | (simp only [firstArgMember]; rfl)) ?_)
  refine wpAny_newObj_type ?_ (by size_fits)
  have k1 : (s.heap.update it (Obj.mapFields (·.setIfInBounds 0 Value.none))).get? x1 = some o1 := by
    rw [Heap.get?_update_other _ _ (Ne.symm ne)]; exact g1
  refine raiseNew_hot ⟨hh, o1, us1, Heap.get?_push_of_some _ (Heap.get?_push_of_some _ k1), e1, n1⟩ (Nat.ne_of_lt (Heap.lt_size (Heap.get?_push_of_some _ k1))) (Heap.get?_push_size _ rfl) rfl (by first | (simp; done) | (simp; omega) | (simp only [Array.size_append]; simp; omega)) ?_
  refine wpAny_bind (wpAny_isInstance (T := "StopIteration") (b := true) ⟨_, Heap.get?_update_self _ (Heap.get?_push_size _ rfl) rfl, rfl⟩ isSubtype_stop ?_)
  refine wpAny_pure (hQ _ fun b o hb e => ?_)
  have k0 : (s.heap.update it (Obj.mapFields (·.setIfInBounds 0 Value.none))).get? b = some o := by
    rw [Heap.get?_update_other _ _ (Ne.symm hb)]; exact e
  rw [Heap.get?_update_other _ _ (Nat.ne_of_gt (Heap.lt_size (Heap.get?_push_of_some _ k0)))]
  exact Heap.get?_push_of_some _ (Heap.get?_push_of_some _ k0)
/-- a list walked while an exception is handled -/
theorem walksZ {I ax x1 : Addr} {o1 : Obj} {us1 : Array Value} (hh : A.handled = some (.ref x1)) (e1 : o1.data = .fields us1) (n1 : us1[2]? = some .none) (hne : ax ≠ I) (items : Array Value) :
    Walks prog w A I [I, ax, x1] [I] items.size (fun i v => items[i]? = some v) (fun i h => h.IsListIter I ax i ∧ h.IsList ax items ∧ h.get? x1 = some o1) where
  sub := fun b hb => by simp at hb; simp [hb]
  frame := fun _ _ _ st hk => ⟨st.1.at fun o e => hk I (by simp) o e, st.2.1.at fun o e => hk ax (by simp) o e, hk x1 (by simp) _ st.2.2⟩
  item := fun i s Q E hi st hQ => by
    refine wpAny_pyNext_list_item st.1 st.2.1 (x := items[i]) (by simp [hi]) fun h' hit' hs' => ?_
    have nx : x1 ≠ I := fun z => by
      obtain ⟨oi, gi, _, di⟩ := st.1
      rw [← z, st.2.2] at gi
      cases gi
      rw [e1] at di
      cases di
      simp at n1
    exact hQ _ h' s.toks (by simp [hi]) ⟨hit', st.2.1.extBut hs'.extBut hne, hs'.extBut x1 _ nx st.2.2⟩ fun b o hb e => hs'.extBut b o (fun z => hb (by simp [z])) e
  done := fun s Q E st hQ => nextEndZ ⟨hh, o1, us1, st.2.2, e1, n1⟩ st.1 st.2.1 (by simp) fun h' he => hQ h' s.toks fun b o hb e => he b o (fun z => hb (by simp [z])) e
  self := fun _ _ _ _ st hQ => wpAny_pyIter_listiter st.1 hQ
theorem sumZ {l x1 : Addr} {xs : Array (Int × Tok)} {Q : Value → Shared → Prop} (hot : HotAt A x1 s.heap) (hl : s.heap.IsList l (intItems xs))
    (h : ∀ h' tk t', (∀ b o, s.heap.get? b = some o → h'.get? b = some o) → Q (.int (preSum (numAt xs) xs.size) t') { s with heap := h', toks := tk }) : wpAny (model prog w) A (call (.builtin "sum") [.ref l]) Q E s := by
  obtain ⟨hh, o1, us1, g1, e1, n1⟩ := hot
  refine call_sum_walkG (iter_intList hl fun s₂ e st hfp hlI => ?_)
  subst e
  refine ⟨_, _, _, _, _, _, numAt xs, rfl, walksZ (A := A.in1) hh e1 n1 hlI (intItems xs), ⟨st.1, st.2, Heap.get?_push_of_some _ g1⟩, fun b hb => ?_, (fun _ _ => intItems_at), fun h' tk t' hk => ?_⟩
  · simp only [List.mem_cons, List.not_mem_nil, or_false] at hb
    rcases hb with z | z | z
    · exact hfp b (by simp [z])
    · exact hfp b (by simp [z])
    · rw [z]; exact Heap.lt_size (Heap.get?_push_of_some _ g1)
  · have q := h h' tk t' (old_kept hk)
    simpa [intItems] using q
theorem sumZL {l x1 : Addr} {its : List Value} {ns : List Int} {Q : Value → Shared → Prop} (hot : HotAt A x1 s.heap) (hl : s.heap.IsList l its.toArray) (hi : IntsAre its ns)
    (h : ∀ h' tk t', (∀ b o, s.heap.get? b = some o → h'.get? b = some o) → Q (.int ns.sum t') { s with heap := h', toks := tk }) : wpAny (model prog w) A (call (.builtin "sum") [.ref l]) Q E s := by
  obtain ⟨xs, e⟩ := hi.allInts.items
  have hn : numsOf (intItems xs).toList = ns := by rw [← e]; exact hi.numsOf
  rw [nums_intItems] at hn
  rw [e] at hl
  refine sumZ hot hl fun h' tk t' hk => ?_
  have q := h h' tk t' hk
  rw [preSum_eq, List.take_of_length_le (by simp), hn]
  exact q
end
theorem cr_sumZ {X : Cx} (hc : HotC X) : CallR X (.builtin "sum") (rSum X.K) := by
  intro pins s σ H vs us Q I r h
  obtain ⟨a, ns, rfl, hs, q⟩ := h
  obtain ⟨its, rv, hl, _⟩ := I.list hs
  obtain ⟨x1, hot⟩ := hc.at I
  rw [Vals.ref1 r]
  exact sumZL hot hl.isList rv.ints fun h' tk t' hk => ⟨.int _, H, I.kept hk, ⟨_, rfl⟩, q⟩
end DL

/-! DLr: comprehensions over a list while an exception is handled -/
namespace DL
open PySem PySem.Spec PyProof.Rows L2 L2H HotX
section
variable {X : Cx}
theorem lcZ {pins : List (Addr × Obj)} {s : Shared} {σ : St} {H : Hp} {Q : VK} {elt tge iter : Expr} {ifs : List Expr} {scope : Scope} {own : List (Str × Nat)} {pos : Pos} {tl te : TE} {g : TG} {tt : TT}
    (hot : HotC X) (hN : X.N.Nodup) (I : Inv X pins σ H s) (hl : PE X iter tl) (ok : BlkOk X.N X.env.scope scope own)
    (hg : ∀ (s : Shared) (H : Hp) (C : Addr) (cl : List (Str × Addr)) (fp : List Addr), PG (X.blk s H scope (compEnvC scope cl C X.env) fp) tge g)
    (ht : ∀ (s : Shared) (H : Hp) (C : Addr) (cl : List (Str × Addr)) (fp : List Addr), PTs (X.blk s H scope (compEnvC scope cl C X.env) fp) ifs tt)
    (he : ∀ (s : Shared) (H : Hp) (C : Addr) (cl : List (Str × Addr)) (fp : List Addr), PE (X.blk s H scope (compEnvC scope cl C X.env) fp) elt te)
    (hs : ∀ x, foldedSetIterable iter X.env x = pure x) (h : tLc (iList X.K tl) g tt te (own.map (·.2)) σ H Q) :
    wpAny (model X.prog X.w) X.A (eval (.ListComp elt [⟨tge, iter, ifs, 0⟩] scope pos) X.env) (EP X pins σ Q) X.xe s := by
  obtain ⟨p, ⟨hh, us1, e1, n1⟩, hp⟩ := hot
  have cells0 : ∀ y ∈ scope.names, y.2 = .free → ∃ c, X.env.cells.lookup y.1 = some c := fun y hy e => (ok.free y hy e).elim (fun k => I.ok.has _ (.inl k)) fun k => I.ok.has _ (.inr k)
  rw [eval_ListComp]
  refine wpAny_comprehension_free rfl hs (closure_ok cells0) ok.kind (fun y hy e => by rw [ok.uniq y hy, e]) (thn (hl.run pins s σ H _ I h) fun xv sa ha => ?_)
  obtain ⟨xx, Ha, Ia, ra, l, ex, ⟨xs0, hq0⟩, q⟩ := ha
  subst ex
  cases ra
  obtain ⟨its0, rv0, p0, _⟩ := Ia.list hq0
  refine wpAny_pyIter_list p0.isList ?_
  generalize hit : sa.heap.objs.size = it
  generalize hsb : ({ sa with heap := sa.heap.push { cls := .type "list_iterator", data := .fields #[.ref l, .int 0 0] } } : Shared) = sb
  have Ib : Inv X pins σ Ha sb := by rw [← hsb]; exact Ia.kept (t' := sa.toks) fun b o e => Heap.get?_push_of_some _ e
  have itb : sb.heap.IsListIter it l 0 := by rw [← hsb, ← hit]; exact ⟨_, Heap.get?_push_size _ rfl, rfl, rfl⟩
  have fb : FpOk X pins Ha it := Ia.fpOk (Nat.le_of_eq hit) (Ia.hok.fresh (Nat.le_of_eq hit))
  have itlt : it < sb.heap.objs.size := by
    obtain ⟨o, e, _⟩ := itb
    exact Heap.lt_size e
  refine wpAny_newObj_type (newEnv_comp ?_) (by show 0 ≤ sizeLine; decide)
  generalize hD : sb.heap.objs.size = D
  have hDn : Ha D = none := Ib.hok.fresh (Nat.le_of_eq hD)
  obtain ⟨W, ⟨m0, w0⟩, turn⟩ := q D hDn
  generalize hsc : ({ sb with heap := sb.heap.push { cls := .type "list", data := .seq ([] : List Value).toArray } } : Shared) = sc
  have hch : sc.heap = sb.heap.push { cls := .type "list", data := .seq ([] : List Value).toArray } := by rw [← hsc]
  have Ic : Inv X pins σ (upd Ha D (.lst [])) sc := by
    rw [← hsc]
    refine Ib.laid (t' := sb.toks) (fun b o e => Heap.get?_push_of_some _ e) (Nat.le_of_eq hD) ⟨Nat.zero_le _, [], 0, .nil, ?_⟩
    rw [← hD]; exact Heap.get?_push_size _ rfl
  have fc : ∀ b ∈ [it], FpOk X pins (upd Ha D (.lst [])) b ∧ b < sc.heap.objs.size := fun b hb => by
    have z : b = it := by simpa using hb
    subst z
    refine ⟨⟨?_, fb.2⟩, by rw [hch, Heap.size_push]; exact Nat.lt_succ_of_lt itlt⟩
    rw [upd_ne (by rw [← hD]; exact Nat.ne_of_lt itlt)]; exact fb.1
  have itc : sc.heap.IsListIter it l 0 := itb.at fun o e => by rw [hch]; exact Heap.get?_push_of_some _ e
  have Id := block_start Ic ok hN fc
  have pg := hg sc (upd Ha D (.lst [])) sc.heap.objs.size (cellsFrom (sc.heap.objs.size + 1) scope.names (cloFrom X.env.cells scope.names [])) [it]
  have pt := ht sc (upd Ha D (.lst [])) sc.heap.objs.size (cellsFrom (sc.heap.objs.size + 1) scope.names (cloFrom X.env.cells scope.names [])) [it]
  have pe := he sc (upd Ha D (.lst [])) sc.heap.objs.size (cellsFrom (sc.heap.objs.size + 1) scope.names (cloFrom X.env.cells scope.names [])) [it]
  -- the handled exception stays
  have pc := Ic.pin p (List.mem_append_left _ hp)
  have pfr : p.1 ∉ frs X.stack := fun hm => (List.mem_cons.mp (Ic.stkSub p.1 hm)).elim pc.2.2.1 pc.2.2.2.1
  have pit : p.1 ∉ [it] := fun hm => by
    have z : p.1 = it := by simpa using hm
    obtain ⟨o, e, _, d⟩ := itc
    rw [← z, pc.1] at e
    cases e
    rw [e1] at d
    cases d
    simp at n1
  show codeAny _ _ (.compStart (.ListComp elt [⟨tge, iter, ifs, 0⟩] scope pos) 0 (.ref it) (.ref D) (compEnvC scope (cellsFrom (sc.heap.objs.size + 1) scope.names (cloFrom X.env.cells scope.names [])) sc.heap.objs.size X.env)) (compPost (model X.prog X.w) X.A X.xe none (EP X pins σ Q) (.ref D) sc.heap.objs.size) { sc with heap := pushCells (sc.heap.push { cls := .type "dict", data := .dict #[] }) scope.names }
  generalize hce : compEnvC scope (cellsFrom (sc.heap.objs.size + 1) scope.names (cloFrom X.env.cells scope.names [])) sc.heap.objs.size X.env = ce at Id pg pt pe ⊢
  have cL : ce.locals = sc.heap.objs.size := by subst hce; rfl
  have nit : (upd Ha D (.lst [])) it = none := (fc it (by simp)).1.1
  generalize hHc : upd Ha D (.lst []) = Hc at Ic Id pg pt pe w0 nit fc pc
  generalize hsd : ({ sc with heap := pushCells (sc.heap.push { cls := .type "dict", data := .dict #[] }) scope.names } : Shared) = sd at Id ⊢
  have itd : sd.heap.IsListIter it l 0 := itc.at fun o e => by rw [← hsd]; exact pushCells_keeps _ _ _ _ (Heap.get?_push_of_some _ e)
  have fpz : ∀ {σ' : St} {H' : Hp} {s' : Shared}, Inv (X.blk sc Hc scope ce [it]) [] σ' H' s' → H' it = none → ∀ b ∈ [it], FpOk (X.blk sc Hc scope ce [it]) [] H' b := fun {σ' H' s'} J hn b hb => by
    have z : b = it := by simpa using hb
    subst z
    exact ⟨hn, (J.ok.exf b hb).1, J.ok.exfs b hb, .inl hb, fun x c e => (J.ok.exf b hb).2 x c e, fun p hp => absurd (show p ∈ ([] : List (Addr × Obj)) ++ [] from hp) (by simp)⟩
  have hotz : ∀ {σ' : St} {H' : Hp} {s' : Shared}, Inv (X.blk sc Hc scope ce [it]) [] σ' H' s' → HotAt X.A p.1 s'.heap := fun {σ' H' s'} J => ⟨hh, p.2, us1, J.base.keep p.1 p.2 pc.1 pc.2.1 pfr pit, e1, n1⟩
  have objz : ∀ {i : Nat} {hp : Heap}, hp.IsListIter it l i → ∀ b ∈ [it], ∃ o, hp.get? b = some o ∧ ∀ v, o.data ≠ .cell v := fun {i hp} st b hb => by
    have z : b = it := by simpa using hb
    subst z
    obtain ⟨o, e, c, d⟩ := st
    exact ⟨o, e, fun v z => by rw [d] at z; cases z⟩
  have loop : codeAny (model X.prog X.w) X.A (.compLoop (.ListComp elt [⟨tge, iter, ifs, 0⟩] scope pos) 0 (.ref it) (.ref D) ce) (compPost (model X.prog X.w) X.A X.xe none (EP X pins σ Q) (.ref D) sc.heap.objs.size) sd := by
    refine compLoop_any (fun n s' => ∃ i H', Inv (X.blk sc Hc scope ce [it]) [] (L2.wipe σ (own.map (·.2))) H' s' ∧ s'.heap.IsListIter it l i ∧ H' it = none ∧ W i n H') ?_ m0 ⟨0, Hc, Id, itd, nit, w0⟩
    rintro n s5 ⟨i, H5, I5, st5, n5, w5⟩
    obtain ⟨f0, f1, f2, f3, f4, f5⟩ := fpz I5 n5 it (by simp)
    rcases turn i n H5 w5 with ⟨stop, qq⟩ | ⟨go, Nx, hNx, step⟩
    · obtain ⟨xs, hq, hx⟩ := stop
      obtain ⟨its, rv, pl, hz⟩ := I5.list hq
      have hlen := rv.length
      have td : wpAny (model X.prog X.w) X.A (pyNext (.ref it)) (fun r s6 => r = none ∧ Inv (X.blk sc Hc scope ce [it]) [] (L2.wipe σ (own.map (·.2))) H5 s6) (fun _ _ => False) s5 :=
        nextEndZ (hotz I5) st5 pl.isList (by simp; omega) fun h6 eb => ⟨rfl, I5.turned (t' := s5.toks) (fun b o hb e => eb b o hb e) f0 f1 f3 f4 f5⟩
      refine thnF td fun r s6 ⟨hr, I6⟩ => ?_
      subst hr
      have I7 : Inv X pins σ H5 s6 := Ic.call' (ch := [it]) I6.os I6.base I6.hok I6.bare fun b hb => ⟨(fc b hb).1.2.2.2.1, (fc b hb).1.2.1, (fc b hb).1.2.2.2.2.1, (fc b hb).1.2.2.2.2.2⟩
      have nC : H5 sc.heap.objs.size = none := by
        have z : H5 ce.locals = none := I6.free
        rw [cL] at z; exact z
      obtain ⟨m, hn, _⟩ := I6.loc
      have hn : s6.heap.Ns ce.locals m := hn
      rw [cL] at hn
      obtain ⟨u0, u1, u2, u3, u4, u5⟩ := Ic.fpOk (Nat.le_refl _) nC
      exact ⟨m, hn, fun h'' sbt => ⟨.ref D, H5, I7.turned (t' := s6.toks) (fun b o hb e => (sbt.2 b hb).trans e) u0 u1 u3 u4 u5, rfl, qq⟩⟩
    · obtain ⟨xs, x, hq, hx⟩ := go
      obtain ⟨its, rv, pl, hz⟩ := I5.list hq
      obtain ⟨u, hu, ru⟩ := rv.get hx
      have ti : wpAny (model X.prog X.w) X.A (pyNext (.ref it)) (fun r s6 => ∃ v, r = some v ∧ wpAny (model X.prog X.w) X.A (letOwnedTupleGo tge (.ref it) v) (fun _ s7 => Inv (X.blk sc Hc scope ce [it]) [] (L2.wipe σ (own.map (·.2))) H5 s7 ∧ RelV x v ∧ s7.heap.IsListIter it l (i + 1)) (fun _ _ => False) s6) (fun _ _ => False) s5 := by
        refine wpAny_pyNext_list_item st5 pl.isList (x := u) (by simpa using hu) fun h6 st6 sb6 => ?_
        have I6 : Inv (X.blk sc Hc scope ce [it]) [] (L2.wipe σ (own.map (·.2))) H5 { s5 with heap := h6 } := I5.turned (t' := s5.toks) (fun b o hb e => (sb6.2 b hb).trans e) f0 f1 f3 f4 f5
        obtain ⟨o, e, c, d⟩ := id st6
        exact ⟨u, rfl, go_of (s := { s5 with heap := h6 }) e c d (by decide) ⟨I6, ru, st6⟩⟩
      have y7 : (Itl X.K l).yld i H5 x H5 := ⟨rfl, fun ys hy => by rw [I5.list_inj hy hq]; exact hx⟩
      refine thnF ti fun r s6 ⟨v, hr, h6⟩ => ?_
      subst hr
      refine thnF h6 fun _ s7 ⟨I7, r7, st7⟩ => ?_
      have J7 := I7.pinned (fpz I7 n5) (objz st7)
      refine thnF (pg.run _ s7 _ H5 x v _ J7 r7 (step x H5 y7)) fun _ s8 ⟨σ8, H8, I8, hw8, q8⟩ => ?_
      refine thnF (pt.run _ s8 σ8 H8 _ I8 q8) fun b s9 ⟨H9, I9, q9⟩ => ?_
      have fin : ∀ {s' : Shared} {H' : Hp}, Inv (X.blk sc Hc scope ce [it]) ([] ++ pinsAt [it] s7.heap) σ8 H' s' → Nx H' → ∃ m, m < n ∧ ∃ i H', Inv (X.blk sc Hc scope ce [it]) [] (L2.wipe σ (own.map (·.2))) H' s' ∧ s'.heap.IsListIter it l i ∧ H' it = none ∧ W i m H' := fun {s' H'} J nx => by
        obtain ⟨m', hm, w'⟩ := hNx H' nx
        have hlw : (L2.wipe σ (own.map (·.2))).length = σ8.length := by rw [← hw8, wipe_length]
        have pn : ∀ o, s7.heap.get? it = some o → s'.heap.get? it = some o ∧ H' it = none := fun o e =>
          let z := J.pin (it, o) (List.mem_append_right _ (List.mem_append_right _ (mem_pinsAt (by simp) e)))
          ⟨z.1, z.2.1⟩
        refine ⟨m', hm, i + 1, H', (J.unpinned (pins := [])).weak hlw (fun j v e => ?_), st7.at fun o e => (pn o e).1, ?_, w'⟩
        · rw [← hw8] at e
          exact (wipe_some e).1
        · obtain ⟨o, e, _⟩ := st7
          exact (pn o e).2
      cases b with
      | false =>
        simp only [Bool.false_eq_true, if_false] at q9 ⊢
        exact fin I9 q9
      | true =>
        simp only [if_true] at q9 ⊢
        refine thnF (pe.run _ s9 σ8 H9 _ I9 q9) fun z s10 ⟨yv, H10, I10, r10, acc, hD10, hz10, nx⟩ => ?_
        exact app_ok (X := X.blk sc Hc scope ce [it]) I10 hD10 hz10 r10 fun s11 I11 => fin I11 nx
  exact codeAny_compStart_list loop (wpAny_pyIter_listiter itd loop)
end
theorem il_list {K : PySem.W.Frag} {B : Fx} {W : WX} {fe : ESem} {σ : St} {H : Hp} {Q : It → Hp → Prop} (h : tG B W (rSrc B) (lLst fe) σ H Q) : iList K (tE B W fe) σ H Q := by
  obtain ⟨F, φ, ρ, γ, R, P⟩ := h
  refine run1 R P fun d γ1 v F1 φ1 H1 x1 R1 d1 P1 => ?_
  cases d with
  | lst ds =>
    have d1 : Den B.C φ1 F1 (.lst ds) v := d1
    rw [Den] at d1
    obtain ⟨a, vs, rfl, h1, h2⟩ := d1
    exact ⟨a, rfl, ⟨vs, .inl (.inl (R1.c.sub _ _ h1))⟩, P1 _ F1 φ1 H1 (Ext.refl _ _ _) R1 (src_list (fun H s => .inl (.inl (s _ _ h1))) h2)⟩
  | _ => exact P1.elim
theorem df_lcZ {X : Cx} {B : Fx} {W : WX} {elt tge iter : Expr} {ifs : List Expr} {scope : Scope} {own : List (Str × Nat)} {pos : Pos} {fe : ESem} {g : TG} {tg : Tgt} {c : CSem} {f : ESem} (hot : HotC X) (hN : X.N.Nodup) (hK : X.K = B.C.K) (hl : PE X iter (tE B W fe)) (ok : BlkOk X.N X.env.scope scope own)
    (hg : ∀ (s : Shared) (H : Hp) (C : Addr) (cl : List (Str × Addr)) (fp : List Addr), PG (X.blk s H scope (compEnvC scope cl C X.env) fp) tge g) (gt : GT B g tg (own.map (·.2)))
    (ht : ∀ (s : Shared) (H : Hp) (C : Addr) (cl : List (Str × Addr)) (fp : List Addr), PTs (X.blk s H scope (compEnvC scope cl C X.env) fp) ifs (tT B W0 c))
    (he : ∀ (s : Shared) (H : Hp) (C : Addr) (cl : List (Str × Addr)) (fp : List Addr), PE (X.blk s H scope (compEnvC scope cl C X.env) fp) elt (tE B W0 f)) (hs : ∀ x, foldedSetIterable iter X.env x = pure x := by intro _; rfl) :
    PE X (.ListComp elt [⟨tge, iter, ifs, 0⟩] scope pos) (tF B W (eLc (lLst fe) (own.map (·.2)) tg c f)) := ⟨fun pins s σ H Q I h => by
  refine lcZ hot hN I hl ok hg ht he hs ?_
  exact il_list (lc_read gt h)⟩
end DL

/-! DLs: a caught exception asked for its class; flags.index(True); a def run while an exception is handled -/
namespace DL
open PySem PySem.Spec PyProof.Rows L2 L2H HotX
/-! ### isinstance(e, C) -/
theorem call_isZ {X : Cx} {a D : Addr} {oe : Obj} (C : ExcC X.K D) (hz : Zc (.ref D) none oe) (hf : ∃ vs, oe.data = .fields vs) (hp : (a, oe) ∈ X.pn) : CallR X (.builtin "isinstance") (rIsE X.K D a) := by
  intro pins s σ H xs us Q I r h
  obtain ⟨c, cv, b, rfl, hcv, e, q⟩ := h
  obtain ⟨u, u', rfl, rx, rt⟩ := vals2 r
  cases rx
  have ec := hcv _ rt
  subst ec
  have hget := (I.pin (a, oe) (List.mem_append.mpr (.inl hp))).1
  obtain ⟨vs, hv⟩ := hf
  have J : PySem.W.InstAt s.heap a oe D none := by
    obtain ⟨oc, od, oda, osl⟩ := oe
    obtain ⟨h1, h2⟩ := hz
    dsimp only at h1 h2 hv
    subst h1 h2 hv
    exact ⟨hget, rfl, rfl, trivial⟩
  exact PySem.W.kia_one (PySem.W.handS_kitx_exc C.hg C.hk C.hs C.hd C.ha C.hn C.ht C.hm) I.kIn J e (fun z => nomatch z) fun tk => ⟨.bl b, H, I.kept (t' := tk) fun _ _ z => z, rfl, q⟩
/-- slot 0 is the exception at a: its class says b -/
def isE (a : Addr) (b : Bool) : ESem := fun (ρ : List (Option D)) γ => match (ρ[(0 : Nat)]? : Option (Option D)) with
  | some (some (.raw (.ref a'))) => if a' = a then .ok (.bl b) γ else .stuck
  | _ => .stuck
theorem isE_at (a : Addr) (b : Bool) (ρ : Env) (γ : List D) : isE a b (some (.raw (.ref a)) :: ρ) γ = .ok (.bl b) γ := by
  unfold isE
  simp
theorem de_isE {X : Cx} {B : Fx} {W : WX} {a D : Addr} {oe : Obj} {x y : Str} {p p1 p2 pos : Pos} {c : V} {cv : Value} {b : Bool} (C : ExcC X.K D) (hz : Zc (.ref D) none oe) (hf : ∃ vs, oe.data = .fields vs) (hp : (a, oe) ∈ X.pn) (hm : X.mg "isinstance" = none)
    (h2 : PE X (.Name y p2) (tC c)) (hcv : ∀ u, RelV c u → u = cv) (hk : PySem.W.kitOne X.K (.ref D) cv = some b) (hN : X.N[0]? = some x) (hv : Vis X.env.scope x) (hg : Gl X "isinstance") (hd : (x == ("__debug__" : Str)) = false := by decide) (hcd : (x == ("__classdict__" : Str)) = false := by decide)
    (e1 : starEach [Expr.Name x p1, Expr.Name y p2] X.env = (false, eval (.Name x p1) X.env) :: starEach [Expr.Name y p2] X.env := by rfl) (e2 : starEach [Expr.Name y p2] X.env = (false, eval (.Name y p2) X.env) :: starEach [] X.env := by rfl) (hpl : (backTo pos (starEach [Expr.Name y p2] X.env)).any (·.1) = false := by rfl) :
    PE X (.Call (.Name "isinstance" p) [.Name x p1, .Name y p2] [] pos) (tE B W (isE a b)) :=
  PE.imp (pe_callB (call_isZ C hz hf hp) hg hm boot_isinstance (pa_cons (pe_var (i := 0) hN hv hd hcd) (pa_cons h2 pa_nil e2) e1) (by decide) (by decide) e1 hpl) fun σ H Q ⟨F, φ, ρ, γ, R, P⟩ => by
    unfold isE at P
    split at P
    · rename_i a' e
      by_cases ha : a' = a
      · subst ha
        rw [if_pos rfl] at P
        rcases R.fz 0 _ e with ⟨v, h1, h3⟩ | ⟨d', a2, q, _⟩
        · rw [Den] at h3
          subst h3
          exact ⟨_, h1, c, cv, b, rfl, hcv, hk, P _ F φ H (Ext.refl _ _ _) R (by show Den _ _ _ _ _; rw [Den])⟩
        · cases q
      · rw [if_neg ha] at P; exact P.elim
    · exact P.elim
/-! ### flags.index(True) -/
def allBl : List D → Bool
  | [] => true
  | .bl _ :: ds => allBl ds
  | _ :: _ => false
def idxT : List D → Option Nat
  | .bl true :: _ => some 0
  | .bl false :: ds => (idxT ds).map (· + 1)
  | _ => none
def eIdxT (fo : ESem) : ESem := fun ρ γ => (fo ρ γ).bind fun d γ => match d with
  | .lst ds => if allBl ds = true then (match idxT ds with
    | some j => .ok (.int (j : Nat)) γ
    | none => .stuck) else .stuck
  | _ => .stuck
theorem bl_flat {C : Ct} {φ : List Addr} {F : Hp} : ∀ {ds : List D} {vs : List V}, allBl ds = true → Dens C φ F ds vs → vs.all flatV = true
  | [], vs, _, h => by rw [Dens] at h; subst h; rfl
  | .bl b :: ds, vs, e, h => by
    rw [Dens] at h
    obtain ⟨v, r, rfl, h1, h2⟩ := h
    rw [Den] at h1
    subst h1
    rw [List.all_cons, bl_flat (by simpa [allBl] using e) h2]
    rfl
  | .non :: _, _, e, _ => by simp [allBl] at e
  | .int _ :: _, _, e, _ => by simp [allBl] at e
  | .str _ :: _, _, e, _ => by simp [allBl] at e
  | .tup _ :: _, _, e, _ => by simp [allBl] at e
  | .lst _ :: _, _, e, _ => by simp [allBl] at e
  | .dic _ :: _, _, e, _ => by simp [allBl] at e
  | .dik _ _ :: _, _, e, _ => by simp [allBl] at e
  | .ins _ _ :: _, _, e, _ => by simp [allBl] at e
  | .cell _ :: _, _, e, _ => by simp [allBl] at e
  | .raw _ :: _, _, e, _ => by simp [allBl] at e
  | .scr _ :: _, _, e, _ => by simp [allBl] at e
  | .mine _ :: _, _, e, _ => by simp [allBl] at e
  | .nk _ :: _, _, e, _ => by simp [allBl] at e
theorem idx_at {C : Ct} {φ : List Addr} {F : Hp} : ∀ {ds : List D} {vs : List V} {j : Nat}, allBl ds = true → Dens C φ F ds vs → idxT ds = some j → vs[j]? = some (.bl true) ∧ ∀ (m : Nat) (z : V), m < j → vs[m]? = some z → z = .bl false
  | [], vs, j, _, h, e => by simp [idxT] at e
  | .bl true :: ds, vs, j, _, h, e => by
    rw [Dens] at h
    obtain ⟨v, r, rfl, h1, h2⟩ := h
    rw [Den] at h1
    subst h1
    simp [idxT] at e
    subst e
    exact ⟨rfl, fun m z hm => absurd hm (Nat.not_lt_zero m)⟩
  | .bl false :: ds, vs, j, a, h, e => by
    rw [Dens] at h
    obtain ⟨v, r, rfl, h1, h2⟩ := h
    rw [Den] at h1
    subst h1
    rw [idxT] at e
    cases q : idxT ds with
    | none => rw [q] at e; cases e
    | some k =>
      rw [q] at e
      cases e
      obtain ⟨h3, h4⟩ := idx_at (by simpa [allBl] using a) h2 q
      refine ⟨by simpa using h3, fun m z hm hz => ?_⟩
      cases m with
      | zero => simp at hz; exact hz.symm
      | succ m => exact h4 m z (Nat.lt_of_succ_lt_succ hm) (by simpa using hz)
  | .non :: _, _, _, e, _, _ => by simp [allBl] at e
  | .int _ :: _, _, _, e, _, _ => by simp [allBl] at e
  | .str _ :: _, _, _, e, _, _ => by simp [allBl] at e
  | .tup _ :: _, _, _, e, _, _ => by simp [allBl] at e
  | .lst _ :: _, _, _, e, _, _ => by simp [allBl] at e
  | .dic _ :: _, _, _, e, _, _ => by simp [allBl] at e
  | .dik _ _ :: _, _, _, e, _, _ => by simp [allBl] at e
  | .ins _ _ :: _, _, _, e, _, _ => by simp [allBl] at e
  | .cell _ :: _, _, _, e, _, _ => by simp [allBl] at e
  | .raw _ :: _, _, _, e, _, _ => by simp [allBl] at e
  | .scr _ :: _, _, _, e, _, _ => by simp [allBl] at e
  | .mine _ :: _, _, _, e, _, _ => by simp [allBl] at e
  | .nk _ :: _, _, _, e, _, _ => by simp [allBl] at e
theorem de_idxT {X : Cx} {B : Fx} {W : WX} {o : Expr} {fo : ESem} {j : Nat} {p1 ap pos : Pos} (hK : X.K = B.C.K) (ho : PE X o (tE B W fo)) (hbase : attributeBase o "index" X.env (eval o X.env) = eval o X.env := by rfl)
    (hfew : ((backTo pos (starEach [Expr.Constant (.bool true) j p1] X.env)).all (fun x => !x.1) && (backToKw pos (keywordEach [] X.env)).all (fun x => x.1.isSome) && decide ([Expr.Constant (.bool true) j p1].length + ([] : List Keyword).length + (if ([] : List Keyword).isEmpty then 0 else 1) < 30)) = true := by rfl)
    (hline : (ap.endLine == pos.line) = true := by rfl) (hs : starEach [Expr.Constant (.bool true) j p1] X.env = (false, eval (.Constant (.bool true) j p1) X.env) :: starEach [] X.env := by rfl) (hplain : (backTo pos (starEach [] X.env)).any (·.1) = false := by rfl) :
    PE X (.Call (.Attribute o "index" ap) [.Constant (.bool true) j p1] [] pos) (tE B W (eIdxT fo)) :=
  PE.imp (pe_bm PySem.F.plainAttrs_list PySem.F.slot_list_index (by rfl) mt_index ho (pa_cons pe_bl pa_nil hs) hbase hfew hline hs hplain) fun σ H Q ⟨F, φ, ρ, γ, R, P⟩ => by
    refine run1 R P fun d γ1 v F1 φ1 H1 x1 R1 d1 P1 => ?_
    cases d with
    | lst ds =>
      dsimp only at P1
      split at P1
      · rename_i ha
        cases q : idxT ds with
        | none => rw [q] at P1; exact P1.elim
        | some k =>
          rw [q] at P1
          have d1 : Den B.C φ1 F1 (.lst ds) v := d1
          rw [Den] at d1
          obtain ⟨l, vs, rfl, h1, h2⟩ := d1
          obtain ⟨h3, h4⟩ := idx_at ha h2 q
          have hq : SqL X.K H1 l vs := .inl (.inl (R1.c.sub _ _ h1))
          refine ⟨.inl ⟨rfl, vs, hq⟩, l, vs, .bl true, k, .bl true, rfl, rfl, hq, rfl, bl_flat ha h2, h3, rfl, fun m z hm hz => ?_, P1 _ F1 φ1 H1 (Ext.refl _ _ _) R1 (by show Den _ _ _ _ _; rw [Den])⟩
          rw [h4 m z hm hz]
          rfl
      · exact P1.elim
    | _ => exact P1.elim
/-! ### the def run -/
section
variable {CX : CXT} {C : Ct} {mg : Str → Option Value} {base : Heap} {x qual : Str} {params : Arguments} {body : List Stmt} {scope : Scope} {f : Addr} {fd : FuncData} {N ps : List Str} {k : Nat}
theorem run_hot (Fd : FunD C.K x qual params body scope [] [] f fd) (S : FnScope N ps scope) {fb : SSem} {p : Addr × Obj} {A : Around} {outer : List PySem.Env} {s : Shared} {H F : Hp} {φ : List Addr} {γ γ' ds : List D} {d : D} {args : Args} {us : List Value} {vs : List V} {Q : VK} {E : XK}
    (hr : RoomH (k + 1) A) (hot : Hot1 A p) (hpin : PinOk outer H s p) (e0 : Env0 C.P C.w C.K mg base A outer s H) (hb : BindsTo s fd args (ps.zip us)) (r : Vals vs us) (cr : CRel C F φ H γ) (hd : Dens C φ F ds vs) (hl : ds.length = ps.length)
    (hbody : ∀ (B : Fx) (cdv : Value), B.C = C → RoomH k (A.deeper (envOfC qual scope s.heap.objs.size f cdv)) → PSs (cxH CX C.P C.w C.K mg base N qual scope f cdv A outer s H E p) body (tS B W0 fb))
    (res : fb (startE N.length ds) γ = .rt d γ') (q : ∀ v F' φ' H', Ext F φ H F' φ' H' → CRel C F' φ' H' γ' → Den C φ' F' d v → Q v H') :
    codeAny (model C.P C.w) A (.call (.ref f) args) (CR CX outer C.P C.w H s Q E) s := by
  obtain ⟨oc, od, dV, kV, doc, pm, an, cdv, ct, osl, rfl, lk, hcd, _, _⟩ := Fd.ex
  have hlv : vs.length = ps.length := by rw [← hd.len]; exact hl
  have KX : C.K.In s.heap := e0.mod.kin.keeps fun b o e => (e0.bs b o e).1
  have lim : s.heap.NoLimit := e0.mod.nolimit.keeps fun b o e => (e0.bs b o e).1
  have kinds : ∀ y ∈ ps.zip us, scope.names.lookup y.1 = some .local ∨ (scope.names.lookup y.1 = some .cell ∧ ((cellsFrom (s.heap.objs.size + 1) scope.names []).lookup y.1).isSome = true) := fun y hy =>
    (S.par y.1 (List.of_mem_zip (a := y.1) (b := y.2) hy).1).elim .inl fun z => .inr ⟨z, PySem.W.cellsFrom_some _ _ _ (.inl z)⟩
  refine codeAny_call_function hr.depth (KX _ _ lk) rfl S.co S.gen rfl (PySem.W.codeRec_of KX hcd) (hb _ _ _ _ (wpAny_newFunctionEnv_cells S.kind kinds fun env he s1 x => ?_))
  subst he
  refine ⟨lim.keeps x.toInCall.keep, codeAny_func ?_⟩
  have I : Inv (cxH CX C.P C.w C.K mg base N qual scope f cdv A outer s H E p) [] (L2.start N vs) H s1 := inv_startH S hpin e0 hlv r x
  have ht : tS ⟨C, F, φ, H⟩ W0 fb { nx := fun _ H' => Q .non H', rt := Q } (L2.start N vs) H := by
    refine ⟨F, φ, startE N.length ds, γ, start_rel cr hd, ?_⟩
    rw [res]
    exact fun v ρ' σ' F' φ' H' _ _ R hv => q v F' φ' H' R.e R.c hv
  refine wpAny_mono ((hbody ⟨C, F, φ, H⟩ cdv rfl (hr.deeper _)).run [] s1 (L2.start N vs) H _ I ht) (fun fl s' hs => ?_) fun e s' hs => hs
  cases fl with
  | ret u =>
    obtain ⟨v, σ', H', J, rv, q⟩ := hs
    exact ⟨v, H', J.os, J.bare, J.base, J.hok, rv, q⟩
  | next =>
    obtain ⟨σ', H', J, q⟩ := hs
    exact ⟨.non, H', J.os, J.bare, J.base, J.hok, rfl, q⟩
  | brk => exact False.elim hs.choose_spec.choose_spec.2
  | cont => exact False.elim hs.choose_spec.choose_spec.2
end
end DL

/-! DLt: x(lambda: body), x a def that calls what it got and tells the name of what is raised -/
namespace DL
open PySem PySem.Spec PyProof.Rows L2 L2H HotX LamX
/-- the lambda's context, what it lets out by L2N -/
abbrev lamN (X : Cx) (A : Around) (outer : List PySem.Env) (s : Shared) (H : Hp) (E : XK) (scope : Scope) (f c' : Addr) : Cx :=
  (lamCx X A outer s H E scope f c').wish fun e s' => wpAny (model X.prog X.w) (A.deeper (lamEnv X scope s.heap.objs.size f c')) (leaving (lamEnv X scope s.heap.objs.size f c') e) (fun _ s'' => L2N.CX X.prog X.w outer H s E e s'') (fun e' s'' => L2N.CX X.prog X.w outer H s E e' s'') s'
theorem lamN_takes {X : Cx} {A : Around} {outer : List PySem.Env} {s : Shared} {H : Hp} {E : XK} {scope : Scope} {f c' : Addr} : L2N.Takes (lamN X A outer s H E scope f c') (fun cls d _ H => E cls d H) := L2N.takes_of rfl rfl rfl rfl
/-- a table has grown -/
theorem Rel.tabNew {B : Fx} {F H : Hp} {φ : List Addr} {ρ : Env} {γ : List D} {σ : St} {P c : Addr} {q : Str} {ps more : Array Value} (R : Rel B F φ H ρ γ σ) (hu : ∀ p ∈ B.C.T, p.1 = P → p.2 = q) (hP : H P = some (.tbl ps)) (nP : F P = none)
    (tr : TriplesOk (ps ++ more).toList) (told : ∀ (pos : Pos) (cv : Value), codeAmong pos (ps ++ more).toList = some cv → codeAmong pos ps.toList = some cv ∨ cv = .ref c) (hc : H c = none) :
    Ext F φ H (upd F c (CodeO c q)) φ (upd (upd H P (.tbl (ps ++ more))) c (CodeO c q)) ∧ Rel B (upd F c (CodeO c q)) φ (upd (upd H P (.tbl (ps ++ more))) c (CodeO c q)) ρ γ σ := by
  have nF : F c = none := R.fnone hc
  have sm : Same F (upd F c (CodeO c q)) := same_upd nF
  have nPc : P ≠ c := ne_of_none hP hc
  have at_ : ∀ b o, H b = some o → NT o → upd (upd H P (.tbl (ps ++ more))) c (CodeO c q) b = some o := fun b o e n => by
    rw [upd_ne (ne_of_none e hc), upd_ne (fun z => n ps (by rw [z, hP] at e; exact (Option.some.inj e).symm))]
    exact e
  have x : Ext F φ H (upd F c (CodeO c q)) φ (upd (upd H P (.tbl (ps ++ more))) c (CodeO c q)) := by
    refine ⟨sm, List.prefix_refl _, fun a o e _ n => at_ a o e n, fun a h => ?_, fun a h => .inl h, fun a o e => ?_⟩
    · by_cases ha : a = c
      · rw [ha]; exact .inr hc
      · rw [upd_ne ha] at h; exact .inl h
    · by_cases ha : a = P
      · rw [ha, upd_ne nPc, upd_same]; exact ⟨_, rfl⟩
      · rw [upd_ne (ne_of_none e hc), upd_ne ha]; exact ⟨o, e⟩
  refine ⟨x, R.step x ⟨fun b o e => ?_, R.c.len, R.c.nd, fun a ha => ?_, fun n d a e1 e2 => (R.c.cell n d a e1 e2).sameN sm (List.prefix_refl _) fun o e n => at_ a o e n, fun p hp => ?_⟩⟩
  · by_cases hb : b = c
    · rw [hb, upd_same] at e ⊢; exact e
    · rw [upd_ne hb] at e ⊢
      rw [upd_ne (fun z => by rw [z, nP] at e; cases e)]
      exact R.c.sub b o e
  · rw [upd_ne (fun z => ?_)]
    · exact R.c.cF a ha
    · obtain ⟨n, hn, e⟩ := List.mem_iff_getElem.mp ha
      have hn' : n < γ.length := by rw [R.c.len]; exact hn
      obtain ⟨u, hu⟩ := (R.c.cell n γ[n] a (by simp [hn']) (by simp [hn, e])).ex
      rw [z, hc] at hu; cases hu
  · obtain ⟨h0, ps', h1, h2, h3⟩ := R.c.tab p hp
    have npc : p.1 ≠ c := ne_of_none h1 hc
    refine ⟨by rw [upd_ne npc]; exact h0, ?_⟩
    by_cases hb : p.1 = P
    · rw [hb, hP] at h1
      cases h1
      have hq := hu p hp hb
      refine ⟨ps ++ more, by rw [hb, upd_ne nPc, upd_same], tr, fun pos cv e => ?_⟩
      rcases told pos cv e with z | z
      · obtain ⟨c0, e1, e2⟩ := h3 pos cv z
        exact ⟨c0, e1, sm _ _ e2⟩
      · exact ⟨c, z, by rw [upd_same, hq]⟩
    · refine ⟨ps', by rw [upd_ne npc, upd_ne hb]; exact h1, h2, fun pos cv e => ?_⟩
      obtain ⟨c0, e1, e2⟩ := h3 pos cv e
      exact ⟨c0, e1, sm _ _ e2⟩
section
variable {X : Cx} {pins : List (Addr × Obj)} {σ : St} {H F : Hp} {s : Shared} {B : Fx} {φ : List Addr} {ρ : Env} {γ : List D}
/-- a lambda is made -/
theorem lam_new {c P : Addr} {params : Arguments} {body : Expr} {scope : Scope} {pos : Pos} {E : Value → Shared → Prop} {Q : Value → Shared → Prop} (I : Inv X pins σ H s) (R : Rel B F φ H ρ γ σ) (TB : TabB X.base X.mg c P) (hcode : X.env.code = .ref c)
    (hm : (P, X.env.qual ++ "<lambda>") ∈ B.C.T) (hu : ∀ p ∈ B.C.T, p.1 = P → p.2 = X.env.qual ++ "<lambda>") (hdef : defaultsOf params X.env = ([], [])) (hfree : ∀ y ∈ scope.names, y.2 = .free → ∃ c, X.env.cells.lookup y.1 = some c)
    (h : ∀ (f c' : Addr) (pm ctv : Value) (F1 H1 : Hp) (s' : Shared), Inv X pins σ H1 s' → Ext F φ H F1 φ H1 → Rel B F1 φ H1 ρ γ σ →
      s'.heap.get? f = some (PySem.W.kla_obj "<lambda>" (X.env.qual ++ "<lambda>") params body scope (cloFrom X.env.cells scope.names []) pm c' ctv) → H1 f = none → f ∉ frs X.stack → H1 c' = some (CodeO c' (X.env.qual ++ "<lambda>")) → Q (.ref f) s') :
    wpAny (model X.prog X.w) X.A (eval (.Lambda params body scope pos) X.env) Q E s := by
  obtain ⟨nP, ps, hP, ht, ha⟩ := R.c.tab _ hm
  have bP : s.heap.BuiltinsAt X.mg P := TB.bm.keeps I.bk
  have gP : s.heap.get? P = some { cls := .none, data := .fields ps } := I.hok P _ hP
  have out : ∀ f, s.heap.objs.size ≤ f → f ∉ frs X.stack := fun f hf z => (List.mem_cons.mp (I.stkSub _ z)).elim (fun e => by
    have h1 := I.lt
    rw [← e] at h1
    exact Nat.lt_irrefl _ (Nat.lt_of_lt_of_le h1 hf)) fun e => I.nofs hf e
  refine PySem.W.kla_eval hdef ?_
  cases hc : codeAmong pos ps.toList with
  | none =>
    refine PySem.W.kla_makeFunction (mg := X.mg) (c := c) (P := P) (ps := ps) (closure_ok hfree) I.ok.glob (I.mod.glob.keeps I.bk) hcode (TB.code.keeps I.bk) gP ht hc TB.gP bP fun c' ctv h' tk hx hge hlt hrec htb => ?_
    obtain ⟨c2, oc, vs, t, e2, hoc, hd, hv⟩ := hrec
    cases e2
    have hsz : s.heap.objs.size ≤ h'.objs.size := Nat.le_trans hge (Nat.le_of_lt hlt)
    have nC : H c' = none := I.hok.fresh hge
    have eL : (ps ++ #[rawInt pos.line, rawInt pos.col, .ref c']).toList = ps.toList ++ [rawInt pos.line, rawInt pos.col, .ref c'] := by simp
    obtain ⟨x1, R1⟩ := R.tabNew (c := c') (q := X.env.qual ++ "<lambda>") (more := #[rawInt pos.line, rawInt pos.col, .ref c']) hu hP nP (by rw [eL]; exact PySem.TriplesOk_snoc _ _ _ _ ht) (fun p' cv e => by rw [eL] at e; exact among_app _ ht e) nC
    have I1 := inv_table (t' := tk) (more := #[rawInt pos.line, rawInt pos.col, .ref c']) (h' := h'.push (PySem.W.kla_obj "<lambda>" (X.env.qual ++ "<lambda>") params body scope (cloFrom X.env.cells scope.names []) ((X.mg "__name__").getD .none) c' ctv)) I hP
      (fun b o hb e => Heap.get?_push_of_some _ (hx b o hb e)) (Heap.get?_push_of_some _ htb) hge ⟨oc, vs, t, Heap.get?_push_of_some _ hoc, hd, hv⟩
    refine h h'.objs.size c' ((X.mg "__name__").getD .none) ctv _ _ _ I1 x1 R1 (Heap.get?_push_size _ rfl) ?_ (out _ hsz) upd_same
    rw [upd_ne (Nat.ne_of_gt hlt), upd_ne (Nat.ne_of_gt (Nat.lt_of_lt_of_le (Heap.lt_size gP) hsz))]
    exact I.hok.fresh hsz
  | some cv =>
    obtain ⟨c', e, hco⟩ := ha pos cv hc
    subst e
    refine PySem.W.kla_makeFunctionHit (mg := X.mg) (c := c) (P := P) (ps := ps) (closure_ok hfree) I.ok.glob (I.mod.glob.keeps I.bk) hcode (TB.code.keeps I.bk) gP ht hc bP fun ctv h' tk hx hsz => ?_
    have I1 : Inv X pins σ H { s with heap := h'.push (PySem.W.kla_obj "<lambda>" (X.env.qual ++ "<lambda>") params body scope (cloFrom X.env.cells scope.names []) ((X.mg "__name__").getD .none) c' ctv), toks := tk } := I.kept fun b o e => Heap.get?_push_of_some _ (hx b o e)
    exact h h'.objs.size c' ((X.mg "__name__").getD .none) ctv F H _ I1 (Ext.refl _ _ _) R (Heap.get?_push_size _ rfl) (I.hok.fresh hsz) (out _ hsz) (R.c.sub _ _ hco)
/-- the lambda called in the def that got it (Z: that def's body under its try) -/
theorem act_N {CXg : CXT} {Eg : XK} {Ng : List Str} {qg : Str} {sg : Scope} {g f c' : Addr} {cdg pm ctv : Value} {params : Arguments} {body : Expr} {scope : Scope} {k i : Nat} {a : Str} {pn : List (Addr × Obj)} {xe : Value → Shared → Prop} {W : WX} {E : XK} {tb : TE} {p1 p2 : Pos}
    (I : Inv X pins σ H s) (L : LamS X.env.scope scope) (hf : s.heap.get? f = some (PySem.W.kla_obj "<lambda>" (X.env.qual ++ "<lambda>") params body scope (cloFrom X.env.cells scope.names []) pm c' ctv)) (hfn : H f = none) (hfr : f ∉ frs X.stack)
    (hbind : bindArgs (PySem.W.kla_fn "<lambda>" (X.env.qual ++ "<lambda>") params body scope (cloFrom X.env.cells scope.names []) pm (.ref c') ctv) ⟨[], []⟩ = pure [])
    (tk : L2N.Takes ((cxOf CXg X.prog X.w X.K X.mg X.base Ng qg sg g cdg X.A X.stack s H Eg).tr pn xe) W) (hW : ∀ cls d σ' H', E cls d H' → W cls d σ' H') (hr : Room (k + 1) (X.A.deeper (envOfC qg sg s.heap.objs.size g cdg)))
    (hbody : ∀ (A : Around) (outer : List PySem.Env) (s : Shared) (H : Hp), Room k (A.deeper (lamEnv X scope s.heap.objs.size f c')) → PE (lamN X A outer s H E scope f c') body tb)
    (hN : Ng[i]? = some a) (hv : Vis sg a) (hd : (a == ("__debug__" : Str)) = false := by decide) (hcd : (a == ("__classdict__" : Str)) = false := by decide) :
    PE ((cxOf CXg X.prog X.w X.K X.mg X.base Ng qg sg g cdg X.A X.stack s H Eg).tr pn xe) (.Call (.Name a p1) [] [] p2)
      (fun σZ HZ Q => σZ[i]? = some (some (.ref f)) ∧ HZ c' = some (CodeO c' (X.env.qual ++ "<lambda>")) ∧ tb σ HZ Q) := by
  refine ⟨fun pinsZ sZ σZ HZ Q IZ ⟨hs, hc, ht⟩ => ?_⟩
  refine wpAny_Call_Name_kw (thn ((pe_var (pos := p1) (i := i) hN hv hd hcd).run pinsZ sZ σZ HZ (fun v H1 => v = .ref f ∧ H1 = HZ) IZ ⟨.ref f, hs, rfl, rfl⟩) fun u s1 ⟨v, H1, I1, r1, ev, eH⟩ => ?_)
  subst ev
  rw [eH] at I1
  obtain rfl : u = Value.ref f := r1
  have of1 : s1.heap.get? f = some (PySem.W.kla_obj "<lambda>" (X.env.qual ++ "<lambda>") params body scope (cloFrom X.env.cells scope.names []) pm c' ctv) := I1.base.keep f _ hf hfn hfr (fun z => nomatch (show f ∈ ([] : List Addr) from z))
  have un : Un (frs X.stack) [] H HZ s.heap s1.heap := I1.base
  obtain ⟨⟨oc, vs, t, hoc, hdc, hvc⟩, _, _⟩ := I1.hok c' _ hc
  have rc : codeAny (model X.prog X.w) (X.A.deeper (envOfC qg sg s.heap.objs.size g cdg)) (.call (.ref f) ⟨[], []⟩) (CR (L2N.CX X.prog X.w) (envOfC qg sg s.heap.objs.size g cdg :: X.stack) X.prog X.w HZ s1 Q E) s1 := by
    refine PySem.W.kla_callFunE hr.depth of1 rfl L.co L.gen rfl ⟨c', oc, vs, t, rfl, hoc, hdc, hvc⟩ ?_
    rw [hbind]
    refine wpAny_pure (wpAny_newFunctionEnv (fun y hy => (L.own y hy).2) (fun y hy => absurd hy (by simp)) (fun h₁ hns hsb => ⟨I1.nolimit.fresh _ hsb, ?_⟩) L.kind)
    show codeAny _ _ (.expr body (lamEnv X scope s1.heap.objs.size f c')) _ _
    have kp : ∀ b o, s1.heap.get? b = some o → h₁.get? b = some o := fun b o e => hsb.extBut b o (Nat.ne_of_lt (Heap.lt_size e)) (Heap.get?_push_of_some _ e)
    have J : Inv (lamN X (X.A.deeper (envOfC qg sg s.heap.objs.size g cdg)) (envOfC qg sg s.heap.objs.size g cdg :: X.stack) s1 HZ E scope f c') [] σ HZ { s1 with heap := h₁, toks := s1.toks + ([] : List (Str × Value)).length } := (lam_start2 I L I1.env0 hr.hd un hns kp).wish _
    refine PySem.W.kla_codeExpr (wpAny_mono ((hbody _ _ s1 HZ (hr.deeper _)).run [] _ _ HZ Q J ht) (fun v s' ⟨w', H', J', rv, q⟩ => ?_) fun e s' hq => hq)
    exact ⟨w', H', J'.os, J'.bare, J'.base, J'.hok, rv, q⟩
  have hx : Passes (L2N.CX X.prog X.w) ((cxOf CXg X.prog X.w X.K X.mg X.base Ng qg sg g cdg X.A X.stack s H Eg).tr pn xe) E := L2N.passes_call tk hW
  refine PySem.W.callWith_F0 ⟨_, _, _, _, of1⟩ (wpAny_call (codeAny_mono rc fun r s' hq => ?_))
  cases r with
  | error e => exact hx pinsZ σZ HZ s1 e s' I1 hq
  | ok fl =>
    cases fl with
    | ret u => exact I1.after hq
    | next => exact False.elim hq
    | brk => exact False.elim hq
    | cont => exact False.elim hq
end
end DL

/-! DLu: _law_told(lambda: body) as data -/
namespace DL
open PySem PySem.Spec PyProof.Rows L2 L2H HotX LamX
/-- what the def that names a caught exception promises; okn: the exceptions' numbers that it knows -/
def TermOk (C : Ct) (mg : Str → Option Value) (base : Heap) (k : Nat) (f : Addr) (nm : Nat → Str) (okn : Nat → Bool) : Prop :=
  ∀ (n : Nat), okn n = true → ∀ (p : Addr × Obj) (A : Around) (outer : List PySem.Env) (s : Shared) (H F : Hp) (φ : List Addr) (γ : List D) (Q : VK), RoomH k A → Hot1 A p → Zc (.ref (C.exc n)) none p.2 → PinOk outer H s p → Env0 C.P C.w C.K mg base A outer s H → CRel C F φ H γ →
    (∀ v F' φ' H', Ext F φ H F' φ' H' → CRel C F' φ' H' γ → Den C φ' F' (.tup [.str "error", .str (nm n)]) v → Q v H') → codeAny (model C.P C.w) A (.call (.ref f) ⟨[.ref p.1], []⟩) (CR C8.CX0 outer C.P C.w H s Q C8.E0) s
/-- what is wished of an exception n: its name is told -/
def wTold (C : Ct) (nm : Nat → Str) (okn : Nat → Bool) (Q : VK) : XK := fun cls d H => ∃ n F φ γ, okn n = true ∧ cls = .ref (C.exc n) ∧ d = none ∧ CRel C F φ H γ ∧ ∀ v F' φ' H', Ext F φ H F' φ' H' → CRel C F' φ' H' γ → Den C φ' F' (.tup [.str "error", .str (nm n)]) v → Q v H'
section
variable {X : Cx} {C : Ct} {nm : Nat → Str} {okn : Nat → Bool}
theorem takesN0 {X : Cx} : L2N.Takes X (fun _ _ _ _ => False) := fun _ _ x => by
  obtain ⟨_, _, _, _, _, _, _, _, _, _, _, _, _, _, _, _, z⟩ := x
  exact z.elim
theorem told_run {Ng : List Str} {x a e se tn q : Str} {sg : Scope} {g CS fT f c' : Addr} {cdg : Value} {k : Nat} {s : Shared} {H : Hp} {Q : VK} {tl : XK → Hp → VK → Prop} {p1 p2 p3 p4 p5 p6 p7 p8 p9 p10 : Pos}
    (hC : C.P = X.prog ∧ C.w = X.w ∧ C.K = X.K) (TO : TermOk C X.mg X.base k fT nm okn) (hN : Ng.Nodup) (h0 : Ng[0]? = some a) (h1 : Ng[1]? = some e) (hl : Ng.length = 2) (hle : sg.names.lookup e = some .local) (hse : sg.names.lookup se = some .globalImplicit) (hde : (se == ("__debug__" : Str)) = false) (hme : X.mg se = some (.ref CS))
    (htn : sg.names.lookup tn = some .globalImplicit) (hdt : (tn == ("__debug__" : Str)) = false) (hmt : X.mg tn = some (.ref fT)) (hkt : PySem.W.keepIn X.K (.ref fT) = true) (he1 : (e == ("__debug__" : Str)) = false) (he2 : (e == ("__classdict__" : Str)) = false)
    (hx : ∀ n, okn n = true → PySem.W.exmOne X.K (.ref (C.exc n)) (.ref CS) = some true) (hr : Room k (X.A.deeper (envOfC x sg s.heap.objs.size g cdg)))
    (act : ∀ (W : WX) (pn : List (Addr × Obj)) (xe : Value → Shared → Prop) (E : XK) (p1 p2 : Pos), L2N.Takes ((cxOf C8.CX0 X.prog X.w X.K X.mg X.base Ng x sg g cdg X.A X.stack s H C8.E0).tr pn xe) W → (∀ cls d σ' H', E cls d H' → W cls d σ' H') →
      PE ((cxOf C8.CX0 X.prog X.w X.K X.mg X.base Ng x sg g cdg X.A X.stack s H C8.E0).tr pn xe) (.Call (.Name a p1) [] [] p2) (fun σZ HZ Q => σZ[0]? = some (some (.ref f)) ∧ HZ c' = some (CodeO c' q) ∧ tl E HZ Q))
    (hc : H c' = some (CodeO c' q)) (h : tl (wTold C nm okn Q) H Q) :
    ∃ t, PSs (cxOf C8.CX0 X.prog X.w X.K X.mg X.base Ng x sg g cdg X.A X.stack s H C8.E0).nox [.Try [.Return (some (.Call (.Name a p1) [] [] p2)) p3] [.ExceptHandler (some (.Name se p4)) (some e) [.Return (some (.Call (.Name tn p5) [.Name e p6] [] p7)) p8] p9] [] [] p10] t ∧ t { nx := fun _ H' => Q .non H', rt := Q } (L2.start Ng [.ref f]) H := by
  obtain ⟨eP, ew, eK⟩ := hC
  have hgl : Gl (cxOf C8.CX0 X.prog X.w X.K X.mg X.base Ng x sg g cdg X.A X.stack s H C8.E0).nox se := hse
  refine ⟨_, pss_one (L2N.ps_try_as (X := (cxOf C8.CX0 X.prog X.w X.K X.mg X.base Ng x sg g cdg X.A X.stack s H C8.E0).nox) (c := .ref CS) (i := 1) (Wout := fun _ _ _ _ => False)
      (tb := fun W D σ H => ∃ Ech : XK, (∀ cls d σ' H', Ech cls d H' → W cls d σ' H') ∧ σ[0]? = some (some (.ref f)) ∧ H c' = some (CodeO c' q) ∧ tl Ech H D.rt)
      (ts := fun a cls d D σ H => (σ.length = 2 → σ[1]? = some (some (.ref a))) ∧ wTold C nm okn D.rt cls d H)
      rfl rfl hN h1 hle ⟨hgl, hde, .inl hme⟩ takesN0 (fun W pn xe tk _ => ?_) (fun b oe cls d pn hz hf => ?_)), ?_⟩
  · refine ⟨fun pins s' σ H' D I ⟨Ech, hW, h1, h2, h3⟩ => ?_⟩
    exact (pss_one (ps_ret (pos := p3) (act W pn xe Ech p1 p2 tk hW))).run pins s' σ H' D I ⟨h1, h2, h3⟩
  · -- the suite
    generalize hX1 : (cxOf C8.CX0 X.prog X.w X.K X.mg X.base Ng x sg g cdg X.A X.stack s H C8.E0).nox = X1
    have y1 : X1.prog = X.prog ∧ X1.w = X.w ∧ X1.K = X.K ∧ X1.mg = X.mg ∧ X1.base = X.base := by subst hX1; exact ⟨rfl, rfl, rfl, rfl, rfl⟩
    have y2 : Gl (X1.suite b ((b, oe) :: pn)) tn := by subst hX1; exact htn
    have y3 : X1.N[1]? = some e := by subst hX1; exact h1
    have y4 : Vis X1.env.scope e := by subst hX1; exact .inl hle
    have y5 : RoomH k X1.A := by subst hX1; exact ⟨hr.dp, hr.un⟩
    have y6 : X1.N.length = 2 := by subst hX1; exact hl
    have he : PE (X1.suite b ((b, oe) :: pn)) (.Call (.Name tn p5) [.Name e p6] [] p7) (fun σ H Q => (σ.length = 2 → σ[1]? = some (some (.ref b))) ∧ wTold C nm okn Q cls d H) := by
      obtain ⟨z1, z2, z3, z4, z5⟩ := y1
      clear hX1
      refine ⟨fun pins s2 σ H2 Q2 I hw => ?_⟩
      obtain ⟨hs, n, F, φ, γ, okn', ec, ed, cr, w⟩ := hw
      subst ec ed
      have hs := hs (by have q := I.len; rw [q]; exact y6)
      refine wpAny_Call_Name_kw (ld_glob I y2 (show X1.mg tn = _ from by rw [z4]; exact hmt) ?_ hdt)
      refine PySem.W.callWith_K (h₀ := X1.base) I.ok.mod.kin (show PySem.W.keepIn X1.K _ = true from by rw [z3]; exact hkt) (thn ((pa_cons (pe_var (X := X1.suite b ((b, oe) :: pn)) (pos := p6) (i := 1) y3 y4 he1 he2) pa_nil).run p7 pins s2 σ H2 (fun vs H1 => vs = [.ref b] ∧ H1 = H2) I ⟨.ref b, hs, rfl, rfl⟩) fun us s3 ⟨vs, H3, I3, r3, ev, eH⟩ => ⟨I3.kIn, ?_⟩) (by rfl) (by rfl)
      subst ev
      rw [eH] at I3
      rw [Vals.ref1 r3]
      have P1 := I3.pin (b, oe) (List.mem_append_left _ (List.mem_cons_self))
      have hpin : PinOk (X1.suite b ((b, oe) :: pn)).stack H2 s3 (b, oe) := ⟨P1.1, P1.2.1, fun hm => (List.mem_cons.mp (I3.stkSub b hm)).elim P1.2.2.1 P1.2.2.2.1, P1.2.2.2.2⟩
      obtain ⟨vs, hv⟩ := hf
      have e0 : Env0 C.P C.w C.K X.mg X.base (X1.suite b ((b, oe) :: pn)).A (X1.suite b ((b, oe) :: pn)).stack s3 H2 := by
        rw [eP, ew, eK, ← z1, ← z2, ← z3, ← z4, ← z5]; exact I3.env0
      have rc := TO n okn' (b, oe) (X1.suite b ((b, oe) :: pn)).A (X1.suite b ((b, oe) :: pn)).stack s3 H2 F φ γ Q2 ⟨y5.dp, y5.un⟩ ⟨rfl, vs, hv, hz.2.2 vs hv⟩ hz.zc hpin e0 cr w
      rw [eP, ew, ← z1, ← z2] at rc
      refine wpAny_call (codeAny_mono rc fun r s4 hq => ?_)
      cases r with
      | error e => exact (show False from hq).elim
      | ok fl =>
        cases fl with
        | ret u => exact I3.after hq
        | next => exact False.elim hq
        | brk => exact False.elim hq
        | cont => exact False.elim hq
    have hq := pss_one (ps_ret (pos := p8) he)
    exact hq
  · refine ⟨wTold C nm okn Q, fun cls d σ' H' wt => ⟨true, ?_, fun _ b nb => ⟨?_, wt⟩, fun z => Bool.noConfusion z⟩, ?_, hc, h⟩
    · obtain ⟨n, F, φ, γ, ho, rfl, _⟩ := wt
      exact hx n ho
    · intro hl2
      rw [List.length_set] at hl2
      rw [List.getElem?_set_self (by omega)]
    · unfold L2.start
      rfl
end
/-! ### the call -/
def eTold (nm : Nat → Str) (okn : Nat → Bool) (f : ESem) : ESem := fun ρ γ => match f ρ γ with
  | .ok d γ' => .ok d γ'
  | .err n γ' => if okn n = true then .ok (.tup [.str "error", .str (nm n)]) γ' else .stuck
  | .stuck => .stuck
/-- what is known of the def that tells -/
structure ToldOk (C : Ct) (mg : Str → Option Value) (base : Heap) (k : Nat) (g : Addr) (nm : Nat → Str) (okn : Nat → Bool) : Prop where
  run : ∀ (X : Cx) (f c' : Addr) (q : Str) (s : Shared) (H : Hp) (Q : VK) (tl : XK → Hp → VK → Prop), C.P = X.prog ∧ C.w = X.w ∧ C.K = X.K ∧ mg = X.mg ∧ base = X.base → Room (k + 1) X.A → Env0 X.prog X.w X.K X.mg X.base X.A X.stack s H →
    (∀ (Ng : List Str) (x : Str) (sg : Scope) (cdg : Value) (a : Str) (W : WX) (pn : List (Addr × Obj)) (xe : Value → Shared → Prop) (E : XK) (p1 p2 : Pos), Ng[0]? = some a → Vis sg a → (a == ("__debug__" : Str)) = false → (a == ("__classdict__" : Str)) = false → Room k (X.A.deeper (envOfC x sg s.heap.objs.size g cdg)) →
      L2N.Takes ((cxOf C8.CX0 X.prog X.w X.K X.mg X.base Ng x sg g cdg X.A X.stack s H C8.E0).tr pn xe) W → (∀ cls d σ' H', E cls d H' → W cls d σ' H') →
      PE ((cxOf C8.CX0 X.prog X.w X.K X.mg X.base Ng x sg g cdg X.A X.stack s H C8.E0).tr pn xe) (.Call (.Name a p1) [] [] p2) (fun σZ HZ Q => σZ[0]? = some (some (.ref f)) ∧ HZ c' = some (CodeO c' q) ∧ tl E HZ Q)) →
    H c' = some (CodeO c' q) → tl (wTold C nm okn Q) H Q → codeAny (model X.prog X.w) X.A (.call (.ref g) ⟨[.ref f], []⟩) (CR C8.CX0 X.stack X.prog X.w H s Q C8.E0) s
theorem told_ok {C : Ct} {mg : Str → Option Value} {base : Heap} {nm : Nat → Str} {okn : Nat → Bool} {Ng : List Str} {x a e se tn : Str} {pg : Arguments} {sg : Scope} {g CS fT : Addr} {fd : FuncData} {k : Nat} {p1 p2 p3 p4 p5 p6 p7 p8 p9 p10 : Pos}
    (Fd : FunD C.K x x pg [.Try [.Return (some (.Call (.Name a p1) [] [] p2)) p3] [.ExceptHandler (some (.Name se p4)) (some e) [.Return (some (.Call (.Name tn p5) [.Name e p6] [] p7)) p8] p9] [] [] p10] sg [] [] g fd) (S : FnScope Ng [a] sg) (hb : Binds C.K fd [a] [])
    (TO : TermOk C mg base k fT nm okn) (h0 : Ng[0]? = some a) (h1 : Ng[1]? = some e) (hl : Ng.length = 2) (hla : Vis sg a) (hle : sg.names.lookup e = some .local) (hse : sg.names.lookup se = some .globalImplicit) (hme : mg se = some (.ref CS))
    (htn : sg.names.lookup tn = some .globalImplicit) (hmt : mg tn = some (.ref fT)) (hkt : PySem.W.keepIn C.K (.ref fT) = true)
    (hx : ∀ n, okn n = true → PySem.W.exmOne C.K (.ref (C.exc n)) (.ref CS) = some true)
    (d1 : (se == ("__debug__" : Str)) = false := by decide) (d2 : (tn == ("__debug__" : Str)) = false := by decide) (d3 : (e == ("__debug__" : Str)) = false := by decide) (d4 : (e == ("__classdict__" : Str)) = false := by decide) (d5 : (a == ("__debug__" : Str)) = false := by decide) (d6 : (a == ("__classdict__" : Str)) = false := by decide) : ToldOk C mg base k g nm okn := by
  refine ⟨fun X f c' q s H Q tl hC hr e0 act hc h => ?_⟩
  obtain ⟨eP, ew, eK, em, eb⟩ := hC
  subst em eb
  obtain ⟨oc, od, dV, kV, doc, pm, an, cdv, ct, osl, rfl, lk, hcd, _, _⟩ := Fd.ex
  rw [eK] at lk hcd hkt hb
  have KX : X.K.In s.heap := e0.mod.kin.keeps fun b o e => (e0.bs b o e).1
  refine run_ofS (N := Ng) (ps := [a]) (us := [.ref f]) (vs := [.ref f]) lk hcd S hr e0 (hb s [.ref f] KX rfl) (.cons rfl .nil) rfl fun hr' => ?_
  obtain ⟨t, ht, hq⟩ := told_run (X := X) (p1 := p1) (p2 := p2) (p3 := p3) (p4 := p4) (p5 := p5) (p6 := p6) (p7 := p7) (p8 := p8) (p9 := p9) (p10 := p10) (x := x) (g := g) (cdg := cdv) (sg := sg) (s := s) ⟨eP, ew, eK⟩ TO S.nd h0 h1 hl hle hse d1 hme htn d2 hmt hkt d3 d4 (fun n ho => by rw [← eK]; exact hx n ho) hr' (fun W pn xe E q1 q2 tk hW => act Ng x sg cdv a W pn xe E q1 q2 h0 hla d5 d6 hr' tk hW) hc h
  exact ⟨t, ht.nox, hq⟩
section
variable {X : Cx} {B : Fx} {W : WX} {nm : Nat → Str} {okn : Nat → Bool}
theorem de_told {x : Str} {g c P : Addr} {k : Nat} {params : Arguments} {body : Expr} {scope : Scope} {fe : ESem} {p lpos pos : Pos} (L0 : B.C.P = X.prog ∧ B.C.w = X.w ∧ B.C.K = X.K) (TO : ToldOk B.C X.mg X.base (k + 1) g nm okn) (hm : X.mg x = some (.ref g)) (hk : PySem.W.keepIn X.K (.ref g) = true)
    (TB : TabB X.base X.mg c P) (hcode : X.env.code = .ref c) (hmT : (P, X.env.qual ++ "<lambda>") ∈ B.C.T) (hu : ∀ p ∈ B.C.T, p.1 = P → p.2 = X.env.qual ++ "<lambda>") (hr : Room (k + 2) X.A) (L : LamS X.env.scope scope)
    (hbody : ∀ (A : Around) (outer : List PySem.Env) (s : Shared) (H : Hp) (E : XK) (f c' : Addr), Room k (A.deeper (lamEnv X scope s.heap.objs.size f c')) → PE (lamN X A outer s H E scope f c') body (tE B (fun cls d _ H => E cls d H) fe))
    (hg : Gl X x := by rfl) (hdef : defaultsOf params X.env = ([], []) := by rfl)
    (hbind : ∀ (q : Str) (cl : List (Str × Addr)) (pm cv ctv : Value), bindArgs (PySem.W.kla_fn "<lambda>" q params body scope cl pm cv ctv) ⟨[], []⟩ = pure [] := by intro _ _ _ _ _; rfl)
    (hdb : (x == ("__debug__" : Str)) = false := by decide) : PE X (.Call (.Name x p) [.Lambda params body scope lpos] [] pos) (tE B W (eTold nm okn fe)) := by
  refine ⟨fun pins s σ H Q I h => ?_⟩
  obtain ⟨F, φ, ρ, γ, R, P0⟩ := h
  refine wpAny_Call_Name_kw (ld_glob I hg hm ?_ hdb)
  refine PySem.W.callWith_K (h₀ := X.base) I.ok.mod.kin hk ?_ (by rfl) (by rfl)
  show wpAny _ _ (spliced ((false, eval (.Lambda params body scope lpos) X.env) :: backTo pos (starEach [] X.env))) _ _ s
  refine Calls.spliced_cons (lam_new I R TB hcode hmT hu hdef (L.has I.ok) fun f c' pm' ctv F1 H1 s' I1 x1 R1 hf hfn hfr hco => ?_)
  refine Calls.spliced_nil ⟨I1.kIn, ?_⟩
  have ht : tE B (fun cls d _ H => wTold B.C nm okn Q cls d H) fe σ H1 Q := by
    refine ⟨F1, φ, ρ, γ, R1, ?_⟩
    unfold eTold at P0
    cases e : fe ρ γ with
    | ok d γ' =>
      rw [e] at P0
      exact fun b F' φ' H' x r q => P0 b F' φ' H' (x1.trans x) r q
    | err n γ' =>
      rw [e] at P0
      intro F' φ' H' x r
      by_cases ho : okn n = true
      · simp only [ho, if_true] at P0
        exact ⟨n, F', φ', γ', ho, rfl, rfl, r.c, fun v F2 φ2 H2 x2 c2 hv => P0 v F2 φ2 H2 (x1.trans (x.trans x2)) (r.step x2 c2) hv⟩
      · simp only [ho] at P0
        exact P0.elim
    | stuck => rw [e] at P0; exact P0.elim
  have rc := TO.run X f c' (X.env.qual ++ "<lambda>") s' H1 Q (fun E H' Q' => tE B (fun cls d _ H => E cls d H) fe σ H' Q') ⟨L0.1, L0.2.1, L0.2.2, rfl, rfl⟩ hr I1.env0
    (fun Ng x sg cdg a W pn xe E p1 p2 hN hv hd hcd hr2 tk hW => act_N (i := 0) I1 L hf hfn hfr (hbind _ _ _ _ _) tk hW hr2 (fun A outer s H hr3 => hbody A outer s H E f c' hr3) hN hv hd hcd) hco ht
  refine wpAny_call (codeAny_mono rc fun r s2 hq => ?_)
  cases r with
  | error e => exact (show False from hq).elim
  | ok fl =>
    cases fl with
    | ret u => exact I1.after hq
    | next => exact False.elim hq
    | brk => exact False.elim hq
    | cont => exact False.elim hq
end
/-! ### a def whose code object is known -/
section
variable {C : Ct} {mg : Str → Option Value} {base : Heap} {x qual : Str} {params : Arguments} {body : List Stmt} {scope : Scope} {f c : Addr} {fd : FuncData} {N ps : List Str} {k : Nat}
theorem fn_dlC (Fd : FunD C.K x qual params body scope [] [] f fd) (hcode : fd.code = .ref c) (S : FnScope N ps scope) {g : List D → List D → Res D} {fb : SSem}
    (hb : ∀ (B : Fx) (A : Around) (outer : List PySem.Env) (s : Shared) (H : Hp) (E : XK), B.C = C → Room k (A.deeper (envOfC qual scope s.heap.objs.size f (.ref c))) →
      L2N.Takes (cxOf (L2N.CX C.P C.w) C.P C.w C.K mg base N qual scope f (.ref c) A outer s H E) (fun cls d _ H => E cls d H) → PassesOwn (model C.P C.w) (A.deeper (envOfC qual scope s.heap.objs.size f (.ref c))) (envOfC qual scope s.heap.objs.size f (.ref c)) (cxOf (L2N.CX C.P C.w) C.P C.w C.K mg base N qual scope f (.ref c) A outer s H E).xe →
      PSs (cxOf (L2N.CX C.P C.w) C.P C.w C.K mg base N qual scope f (.ref c) A outer s H E) body (tS B (fun cls d _ H => E cls d H) fb))
    (hg : ∀ ds γ, ds.length = ps.length → g ds γ ≠ .stuck → bodyR (fb (startE N.length ds) γ) = g ds γ) : FnOk C.P C.w C.K mg base (L2N.CX C.P C.w) (k + 1) f fd ps (spM C ps.length g) := by
  obtain ⟨oc, od, dV, kV, doc, pm, an, cdv, ct, osl, rfl, lk, hcd, _, _⟩ := Fd.ex
  have hcode : cdv = .ref c := hcode
  subst hcode
  refine fn_of lk hcd S (fun vs H Q E h => ?_) (fun A outer s H vs Q E hr h => ?_)
  · obtain ⟨F, φ, γ, ds, _, h1, h2, _⟩ := h
    rw [← h1.len, h2]
  · obtain ⟨F, φ, γ, ds, cr, h1, h2, h3⟩ := h
    refine ⟨_, hb ⟨C, F, φ, H⟩ A outer s H E rfl hr (L2N.takes_of rfl rfl rfl rfl) (passes_of (X := cxOf (L2N.CX C.P C.w) C.P C.w C.K mg base N qual scope f (.ref c) A outer s H E) rfl), F, φ, startE N.length ds, γ, start_rel cr h1, ?_⟩
    have ne : g ds γ ≠ .stuck := fun z => by rw [z] at h3; exact h3
    rw [← hg ds γ h2 ne] at h3
    cases e : fb (startE N.length ds) γ with
    | nx ρ' γ' => rw [e] at h3; exact fun σ' F' φ' H' _ _ R => h3 .non F' φ' H' R.e R.c (by rw [Den])
    | rt d γ' => rw [e] at h3; exact fun v ρ' σ' F' φ' H' _ _ R hd => h3 v F' φ' H' R.e R.c hd
    | bk ρ' γ' => rw [e] at h3; exact h3.elim
    | ct ρ' γ' => rw [e] at h3; exact h3.elim
    | err c ρ' γ' => rw [e] at h3; exact fun σ' F' φ' H' _ _ R => h3 F' φ' H' R.e R.c
    | stuck => rw [e] at h3; exact h3
end
/-! ### the end with tables -/
theorem walk_ofTW {l : PySem.W.OpenLaw} {n k : Nat} {q : Program} {loose : List Str} {XP : (Str → Option Value) → Heap → Prop} {YP : World → Heap → Prop} {d : DefRec} {CX : World → CXT} {x : Str}
    (hn : l.most = some n) (hn2 : n ≤ sizeLine) (hdf : d.params.defaults = []) (hr : Room k callerA)
    (F : ∀ (w : World) (mg : Str → Option Value) (fa : Addr) (h : Heap), YP w h → h.Ns mainGlobals mg → mg d.name = some (.ref fa) → ∃ K : PySem.W.Frag, K.In h ∧ LawAtS l w K (CX w) k n x mg fa h)
    (hCX : ∀ (w : World) (H : Hp) (s : Shared) (e : Value) (s' : Shared), CX w [] H s (fun _ _ _ => False) e s' → False) :
    PySem.W.WalkO q loose XP YP l.row.toRowW d [] (fun f vs => PySem.call f vs) := by
  refine Att.attach_callB hn hdf fun w s₀ s₁ mg mb fa o pm cd doc a vs ns G Y ho hd hcd hmg hobj hints hlen hbits hg => ?_
  obtain ⟨K, KX, fd, cs, sp, hT, nT, C, hb, hsp, hF⟩ := F w mg fa _ Y G.T.g hmg
  exact law_callTs KX G.T.g G.T.b G.T.builtins G.T.nolimit hg hT nT C G.T.bmain hobj hints (Nat.le_trans hlen hn2) hr hF hb (fun H hH hS => hsp H a ns hlen hbits hH hS) fun H e s' => hCX w H s₁ e s'
/-- a heap without its tables -/
noncomputable def noTab (H : Hp) : Hp := fun a => open Classical in if (∃ ps, H a = some (.tbl ps)) then none else H a
theorem noTab_at {H : Hp} {a : Addr} {o : HO} (h : H a = some o) (n : NT o) : noTab H a = some o := by
  unfold noTab
  rw [if_neg (fun ⟨ps, z⟩ => n ps (by rw [h] at z; exact Option.some.inj z))]
  exact h
theorem noTab_tbl {H : Hp} {a : Addr} {ps : Array Value} (h : H a = some (.tbl ps)) : noTab H a = none := by
  unfold noTab
  rw [if_pos ⟨ps, h⟩]
theorem noTab_same (H : Hp) : Same (noTab H) H := fun a o e => by
  unfold noTab at e
  split at e
  · cases e
  · exact e
theorem sp_lawT {C : Ct} {g : List D → List D → Res D} {H : Hp} {a : Addr} {ns : List Int} (hT : ∀ p ∈ C.T, H p.1 = some (.tbl #[])) (hS : SqL C.K H a (ns.map V.int)) (h : ∃ γ', g [.scr ns] [] = .ok (.bl true) γ') : spM C 1 g [.ref a] H (fun v _ => v = .bl true) fun _ _ _ => False := by
  obtain ⟨γ', e⟩ := h
  refine ⟨noTab H, [], [], [.scr ns], ⟨noTab_same H, rfl, List.nodup_nil, fun a ha => (List.not_mem_nil ha).elim, fun n d a e => by simp at e, fun p hp => ⟨noTab_tbl (hT p hp), #[], hT p hp, True.intro, fun pos cv e => ?_⟩⟩, .one ?_, rfl, ?_⟩
  · have z : codeAmong pos [] = some cv := e
    simp [codeAmong] at z
  · rw [Den]
    refine ⟨a, rfl, ?_⟩
    rcases hS with (h | ⟨o, h⟩) | h
    · exact .inl (.inl (noTab_at h (fun _ z => by cases z)))
    · exact .inl (.inr ⟨o, noTab_at h (fun _ z => by cases z)⟩)
    · exact .inr h
  · rw [e]
    intro v F' φ' H' _ _ hd
    rw [Den] at hd
    exact hd
end DL

/-! DLn: the head's facts -/
namespace DL
open PySem PySem.Spec PyProof.Rows L2
/-- the values are those texts -/
def strsB : List Value → List Str → Bool
  | [], [] => true
  | .str x _ :: vs, y :: ys => decide (x = y) && strsB vs ys
  | _, _ => false
theorem strsB_ok : ∀ {vs : List Value} {xs : List Str}, strsB vs xs = true → Vals (xs.map V.str) vs
  | [], [], _ => .nil
  | .str x t :: vs, y :: ys, h => by
    rw [strsB, Bool.and_eq_true, decide_eq_true_eq] at h
    obtain ⟨rfl, h⟩ := h
    exact .cons ⟨t, rfl⟩ (strsB_ok h)
  | [], _ :: _, h => by simp [strsB] at h
  | v :: _, [], h => by cases v <;> simp [strsB] at h
  | .none :: _, _ :: _, h => by simp [strsB] at h
  | .bool _ :: _, _ :: _, h => by simp [strsB] at h
  | .int _ _ :: _, _ :: _, h => by simp [strsB] at h
  | .ref _ :: _, _ :: _, h => by simp [strsB] at h
  | .type _ :: _, _ :: _, h => by simp [strsB] at h
  | .builtin _ :: _, _ :: _, h => by simp [strsB] at h
  | .notImplemented :: _, _ :: _, h => by simp [strsB] at h
def tupB (K : PySem.W.Frag) (a : Addr) (xs : List Str) : Bool := match K.lookup a with
  | some o => (match o.data with
    | .seq its n => decide (o.cls = .type "tuple") && Nat.ble its.size 1000 && strsB its.toList xs
    | _ => false)
  | none => false
theorem tupB_ok {K : PySem.W.Frag} {a : Addr} {xs : List Str} (h : tupB K a xs = true) : TupS K a xs := by
  unfold tupB at h
  split at h
  · rename_i o e
    split at h
    · rename_i its n hd
      rw [Bool.and_eq_true, Bool.and_eq_true, decide_eq_true_eq] at h
      exact ⟨o, its, n, e, h.1.1, hd, Nat.le_trans (Nat.le_trans (Nat.le_of_ble_eq_true h.1.2) (by decide : 1000 ≤ 1000000)) SZ, strsB_ok h.2⟩
    · cases h
  · cases h
theorem exc_of {K : PySem.W.Frag} {x : Str} (c : (He.Fa.exc x).ok K = true) : ExcF K (He.ga K x) := by
  obtain ⟨h1, h2, h3, h4⟩ := He.exc_ok c
  exact ⟨h1, h2, h3, h4⟩
theorem tab_ok {K : PySem.W.Frag} {w : World} {a : Addr} {tab : List (Str × Int)} (h : ∃ es n, KDict K w a es n) (hv : He.valsB K a (tab.map fun q => (q.1, He.Dv.int q.2)) = true) : ∀ z i, tab.lookup z = some i → KDct K w a z (.int i) := by
  intro z i e
  obtain ⟨es, n, D⟩ := h
  obtain ⟨u, h1, h2⟩ := He.valsB_ok hv (q := (z, He.Dv.int i)) (List.mem_map.mpr ⟨(z, i), lookup_mem e, rfl⟩)
  exact ⟨es, n, u, D.at_, D.lit, h1, h2⟩
/-- what isinstance asks of an exception's class, by looking -/
def excB (K : PySem.W.Frag) (D : Addr) : Bool :=
  He.eqO (PySem.W.findIn K (.ref D) "__getattribute__") (some (some (.builtin "BaseException.__getattribute__"))) && (He.eqO (PySem.W.findIn K (.ref D) "__getattr__") (some none) && (decide (PySem.W.subIn K (.ref D) (.type "BaseException") = some true) && (PySem.W.hasDictIn K D &&
    (He.eqO (PySem.W.findIn K (.ref D) "__class__") (some (some (.builtin "object.__class__"))) && (He.eqO (PySem.W.specialIn K (.builtin "object.__class__") "__get__") (some (some (.builtin "getset_descriptor.__get__"))) && (decide (PySem.W.takesIn K (.builtin "object.__class__") = some true) && decide (PySem.W.mroIn K D (.type "object") = some true)))))))
theorem excB_ok {K : PySem.W.Frag} {D : Addr} (h : excB K D = true) : ExcC K D := by
  obtain ⟨h1, h⟩ := He.ba h
  obtain ⟨h2, h⟩ := He.ba h
  obtain ⟨h3, h⟩ := He.ba h
  obtain ⟨h4, h⟩ := He.ba h
  obtain ⟨h5, h⟩ := He.ba h
  obtain ⟨h6, h⟩ := He.ba h
  obtain ⟨h7, h8⟩ := He.ba h
  exact ⟨He.eqO_ok h1, He.eqO_ok h2, of_decide_eq_true h3, h4, He.eqO_ok h5, He.eqO_ok h6, of_decide_eq_true h7, of_decide_eq_true h8⟩
/-- the classes ns of exceptions, each apart from the others, all caught by CS -/
def termB (K : PySem.W.Frag) (exc : Nat → Addr) (ns : List Nat) (CS : Addr) : Bool := ns.all fun n => excB K (exc n) && (decide (PySem.W.kitOne K (.ref (exc n)) (.type "ValueError") = some true) && (decide (PySem.W.exmOne K (.ref (exc n)) (.ref CS) = some true) && ns.all fun k => decide (PySem.W.kitOne K (.ref (exc n)) (.ref (exc k)) = some (decide (n = k)))))
structure TermF (K : PySem.W.Frag) (exc : Nat → Addr) (ns : List Nat) (CS : Addr) : Prop where
  xc : ∀ n ∈ ns, ExcC K (exc n)
  ve : ∀ n ∈ ns, PySem.W.kitOne K (.ref (exc n)) (.type "ValueError") = some true
  exm : ∀ n ∈ ns, PySem.W.exmOne K (.ref (exc n)) (.ref CS) = some true
  kit : ∀ n ∈ ns, ∀ k ∈ ns, PySem.W.kitOne K (.ref (exc n)) (.ref (exc k)) = some (decide (n = k))
theorem termB_ok {K : PySem.W.Frag} {exc : Nat → Addr} {ns : List Nat} {CS : Addr} (h : termB K exc ns CS = true) : TermF K exc ns CS := by
  have key : ∀ n ∈ ns, _ := List.all_eq_true.mp h
  refine ⟨fun n hn => excB_ok (He.ba (key n hn)).1, fun n hn => of_decide_eq_true (He.ba (He.ba (key n hn)).2).1, fun n hn => of_decide_eq_true (He.ba (He.ba (He.ba (key n hn)).2).2).1, fun n hn k hk => ?_⟩
  exact of_decide_eq_true (List.all_eq_true.mp (He.ba (He.ba (He.ba (key n hn)).2).2).2 k hk)
theorem code_of {K : PySem.W.Frag} {x qual : Str} {params : Arguments} {body : List Stmt} {scope : Scope} {p : He.Defn} {fd : FuncData} (Fd : FunD K x qual params body scope [] [] (He.fAd K p) fd) : fd.code = .ref (He.cT K p).1 := by
  obtain ⟨oc, od, dV, kV, doc, pm, an, cdv, ct, osl, rfl, lk, hcd, _, _⟩ := Fd.ex
  obtain ⟨c, hc⟩ := He.codeIn_ref hcd
  have hc' : (PySem.W.fnOf x qual params body scope dV kV doc pm an cdv ct).code = .ref c := hc
  rw [hc', show (He.cT K p).1 = c from He.codeOf_eq lk hc']
theorem walk_ofW {l : PySem.W.OpenLaw} {n k : Nat} {q : Program} {loose : List Str} {XP : (Str → Option Value) → Heap → Prop} {YP : World → Heap → Prop} {d : DefRec} {CX : World → CXT} {x : Str}
    (hn : l.most = some n) (hn2 : n ≤ sizeLine) (hdf : d.params.defaults = []) (hr : Room k callerA)
    (F : ∀ (w : World) (mg : Str → Option Value) (fa : Addr) (h : Heap), YP w h → h.Ns mainGlobals mg → mg d.name = some (.ref fa) →
      ∃ (K : PySem.W.Frag) (fd : FuncData) (sp : Sp), K.In h ∧ (∀ (s : Shared) (u : Value), BindsTo s fd ⟨[u], []⟩ [(x, u)]) ∧
        (∀ (H : Hp) (a : Addr) (ns : List Int), ns.length ≤ n → Only H → SqL K H a (ns.map V.int) → sp [.ref a] H (fun v _ => v = .bl true) fun _ _ _ => False) ∧
        ∀ base : Heap, K.In base → base.Ns mainGlobals mg → FnOk l.prog w K mg base (CX w) k fa fd [x] sp)
    (hCX : ∀ (w : World) (H : Hp) (s : Shared) (e : Value) (s' : Shared), CX w [] H s (fun _ _ _ => False) e s' → False) :
    PySem.W.WalkO q loose XP YP l.row.toRowW d [] (fun f vs => PySem.call f vs) := by
  refine Att.attach_call hn hdf fun w s₀ s₁ mg mb fa o pm cd doc a vs ns G Y ho hd hcd hmg hobj hints hlen hg => ?_
  obtain ⟨K, fd, sp, KX, hb, hsp, hF⟩ := F w mg fa _ Y G.T.g hmg
  exact law_call KX G.T.g G.T.b G.T.builtins G.T.nolimit hg hobj hints (Nat.le_trans hlen hn2) hr hF hb (fun H hO hS => hsp H a ns hlen hO hS) fun H e s' => hCX w H s₁ e s'
theorem cx_none {P : Program} {w : World} {H : Hp} {s : Shared} {e : Value} {s' : Shared} (h : L2N.CX P w [] H s (fun _ _ _ => False) e s') : False := by
  obtain ⟨_, _, _, _, _, _, _, _, _, _, _, _, z⟩ := h
  exact z
/-- the law's promise kept, from the plain law -/
theorem sp_law {C : Ct} {g : List D → List D → Res D} {H : Hp} {a : Addr} {ns : List Int} (hT : C.T = []) (hS : SqL C.K H a (ns.map V.int)) (h : ∃ γ', g [.scr ns] [] = .ok (.bl true) γ') : spM C 1 g [.ref a] H (fun v _ => v = .bl true) fun _ _ _ => False := by
  obtain ⟨γ', e⟩ := h
  refine ⟨H, [], [], [.scr ns], ⟨same_refl H, rfl, List.nodup_nil, fun a ha => (List.not_mem_nil ha).elim, fun n d a e => by simp at e, fun p hp => by rw [hT] at hp; cases hp⟩, .one (by rw [Den]; exact ⟨a, rfl, hS⟩), rfl, ?_⟩
  rw [e]
  intro v F' φ' H' _ _ hd
  rw [Den] at hd
  exact hd
end DL

/-! DLv: the mirror of the def that names an exception -/
namespace DL
section
open PySem PySem.Spec PyProof.Rows L2
variable {a : Addr} {b1 b2 b3 : Bool} {x : Option D} {ρ ρ' : List (Option D)} {γ γ' ds : List D} {f g : SSem} {o : Out} {c1 : CSem}
theorem tv_seq (h : f ρ γ = .nx ρ' γ') (h2 : g ρ' γ' = o) : sSeq f g ρ γ = o := by
  unfold sSeq
  rw [h]
  exact h2
theorem tv_l3 : aCons (isE a b1) (aCons (isE a b2) (aCons (isE a b3) aNil)) (some (.raw (.ref a)) :: ρ) γ = .ok [.bl b1, .bl b2, .bl b3] γ := by
  simp only [aCons, isE_at, aNil, Res.bind_ok]
theorem tv_l1 : aCons (isE a b1) aNil (some (.raw (.ref a)) :: ρ) γ = .ok [.bl b1] γ := by
  simp only [aCons, isE_at, aNil, Res.bind_ok]
theorem tv_s3 : sSet 1 (eLst (aLim 1000000 (aCons (isE a b1) (aCons (isE a b2) (aCons (isE a b3) aNil))))) (some (.raw (.ref a)) :: x :: ρ) γ = .nx (some (.raw (.ref a)) :: some (.lst [.bl b1, .bl b2, .bl b3]) :: ρ) γ := by
  unfold sSet eLst aLim
  rw [tv_l3]
  rfl
theorem cat_ll {as bs : List D} (h : as.length + bs.length ≤ 1000000) : gAddA (.lst as) (.lst bs) = some (.lst (as ++ bs)) := by
  have e : gCatL (.lst as) (.lst bs) = some (.lst (as ++ bs)) := by
    show (if as.length + bs.length ≤ 1000000 then some (D.lst (as ++ bs)) else none) = _
    rw [if_pos h]
  unfold gAddA gOr
  rw [show gAddI (.lst as) (.lst bs) = none from rfl, e]
  rfl
theorem tv_a3 {e1 : ESem} (he : e1 (some (.raw (.ref a)) :: some (.lst ds) :: ρ) γ = .ok (.lst ds) γ) (h : ds.length ≤ 100) : sSet 1 (eOp gAddA e1 (eLst (aLim 1000000 (aCons (isE a b1) (aCons (isE a b2) (aCons (isE a b3) aNil)))))) (some (.raw (.ref a)) :: some (.lst ds) :: ρ) γ = .nx (some (.raw (.ref a)) :: some (.lst (ds ++ [.bl b1, .bl b2, .bl b3])) :: ρ) γ := by
  unfold sSet eOp eLst aLim
  rw [he]
  simp only [Res.bind_ok]
  rw [tv_l3]
  simp only [Res.bind_ok]
  rw [if_pos (show ([D.bl b1, D.bl b2, D.bl b3] : List D).length ≤ 1000000 from by simp)]
  simp only [Res.bind_ok]
  rw [cat_ll (by simp; omega)]
  rfl
theorem tv_a1 {e1 : ESem} (he : e1 (some (.raw (.ref a)) :: some (.lst ds) :: ρ) γ = .ok (.lst ds) γ) (h : ds.length ≤ 100) : sSet 1 (eOp gAddA e1 (eLst (aLim 1000000 (aCons (isE a b1) aNil)))) (some (.raw (.ref a)) :: some (.lst ds) :: ρ) γ = .nx (some (.raw (.ref a)) :: some (.lst (ds ++ [.bl b1])) :: ρ) γ := by
  unfold sSet eOp eLst aLim
  rw [he]
  simp only [Res.bind_ok]
  rw [tv_l1]
  simp only [Res.bind_ok]
  rw [if_pos (show ([D.bl b1] : List D).length ≤ 1000000 from by simp)]
  simp only [Res.bind_ok]
  rw [cat_ll (by simp; omega)]
  rfl
theorem tv_if (h : c1 (some (.raw (.ref a)) :: ρ) γ = .ok false γ) : sIf (cOr c1 (cNot (cVal (isE a true)))) f g (some (.raw (.ref a)) :: ρ) γ = g (some (.raw (.ref a)) :: ρ) γ := by
  unfold sIf cOr cNot cVal
  rw [h]
  simp only [Res.bind_ok, Bool.false_eq_true, if_false]
  rw [isE_at]
  rfl
end
theorem units_hot {k : Nat} {A : PySem.Around} (r : L2H.RoomH k A) : A.units + 64 < PySem.cLine := by
  have := r.un
  omega
theorem boot_ValueError : PySem.bootBuiltins "ValueError" = some (.type "ValueError") := by decide +kernel
end DL

/-! DLJ: a caught exception given back as a value -/
namespace DL
open PySem PySem.Spec PyProof.Rows L2 L2H HotX LamX
section
variable {X : Cx} {pins : List (Addr × Obj)} {σ : St} {H : Hp} {s : Shared}
/-- what is pinned, and new since the entry, may be known -/
theorem inv_know {a : Addr} {oe : Obj} (J : Inv X (pins ++ [(a, oe)]) σ H s) (hex : X.ex = []) (n0 : X.s_0.heap.get? a = none) (np : ∀ p ∈ X.pn ++ pins, p.1 ≠ a) (nc : ∀ y c, X.env.cells.lookup y = some c → c ≠ a) : Inv X pins σ (upd H a (knO a oe)) s := by
  obtain ⟨ga, na, nl, _, _⟩ := J.pin (a, oe) (by simp)
  have ne0 : ∀ b o, X.s_0.heap.get? b = some o → b ≠ a := fun b o e z => by rw [z, n0] at e; cases e
  have neS : ∀ b (o : HO), H b = some o → b ≠ a := fun b o e z => by rw [z] at e; rw [show H a = none from na] at e; cases e
  refine ⟨J.ok, J.os, J.bare, ⟨J.base.keep, J.base.slot, fun b o e z hb => ?_, J.base.there, fun b xs e => ?_, fun b o u e => ?_, fun b ps e => ?_⟩, J.loc, J.cell, ?_, fun y c e => ?_, fun p hp => ?_, fun b u e => ?_, J.len⟩
  · rw [upd_ne (ne0 b o e)]; exact J.base.free b o e z hb
  · have q := J.base.tups b xs e
    rw [upd_ne (neS _ _ q)]; exact q
  · have q := J.base.frzs b o u e
    rw [upd_ne (neS _ _ q)]; exact q
  · obtain ⟨more, q⟩ := J.base.tbls b ps e
    exact ⟨more, by rw [upd_ne (neS _ _ q)]; exact q⟩
  · rw [upd_ne (Ne.symm nl)]; exact J.free
  · rw [upd_ne (nc y c e)]; exact J.freeC y c e
  · obtain ⟨h1, h2, h3, h4, h5⟩ := J.pin p (by
      rcases List.mem_append.mp hp with z | z
      · exact List.mem_append_left _ z
      · exact List.mem_append_right _ (List.mem_append_left _ z))
    exact ⟨h1, by rw [upd_ne (np p hp)]; exact h2, h3, h4, h5⟩
  · by_cases hb : b = a
    · subst hb
      rw [upd_same] at e
      cases e
      exact ⟨ga, ⟨oe, ga⟩, fun _ _ q k => k oe q⟩
    · rw [upd_ne hb] at e
      exact (J.hok b u e).stay (fun c v _ q => q) (fun c q => by rw [upd_ne (neS _ _ q)]; exact q) fun c xs q => by rw [upd_ne (neS _ _ q)]; exact q
end
/-- what the clause that gives the exception back wishes -/
def wMet (K : PySem.W.Frag) (c : Value) (Wout : WX) (D : Ends) : WX := fun cls d σ H =>
  ∃ b, PySem.W.exmOne K cls c = some b ∧ (b = true → ∀ a oe vs, H a = none → L2N.Zn cls d oe → oe.data = .fields vs → D.rt (.ref a) (upd H a (knO a oe))) ∧ (b = false → Wout cls d σ H)
section
variable {X : Cx} {x n : Str} {c : Value} {i : Nat} {body : List Stmt} {np pos pos' pr pv : Pos} {tb : WX → TS} {Wout : WX}
theorem ps_met (hs : X.stack = X.env :: X.outer) (hf : X.env.frame = some X.env.locals) (hex : X.ex = []) (hN : X.N.Nodup) (hi : X.N[i]? = some n) (hln : X.env.kindOf n = some .local) (hc : Names X x c) (tk : L2N.Takes X Wout) (d1 : (n == ("__debug__" : Str)) = false) (d2 : (n == ("__classdict__" : Str)) = false)
    (hb : ∀ (W : WX) (pn : List (Addr × Obj)) (xe : Value → Shared → Prop), L2N.Takes (X.tr pn xe) W → PassesOwn (model X.prog X.w) X.A X.env xe → PSs (X.tr pn xe) body (tb W)) :
    PS X (.Try body [.ExceptHandler (some (.Name x np)) (some n) [.Return (some (.Name n pv)) pr] pos'] [] [] pos) (fun D σ H => tb (wMet X.K c Wout D) D σ H) := by
  refine ⟨fun pins s σ H D I h => ?_⟩
  have Io := I.ok
  have fr0 : X.A.frames = some (X.env :: X.outer) := by rw [Io.frames, hs]
  have lcn : Loc X.env.scope n := .inl hln
  let back : Value → Shared → Prop := fun e t1 => wpAny (model X.prog X.w) X.A (noteFrame e X.env) (fun _ t2 => wpAny (model X.prog X.w) X.A (setFlight e none) (fun _ t3 => wpAny (model X.prog X.w) X.A (handleBy e X.env [.ExceptHandler (some (.Name x np)) (some n) [.Return (some (.Name n pv)) pr] pos']) (SP X pins D) X.xe t3) X.xe t2) X.xe t1
  refine wpAny_Try_except (wpAny_mono ((hb (wMet X.K c Wout D) (X.pn ++ pins) back (fun u t xx => ?_) PassesOwn.looking).run [] s σ H D (I.toTry _) h) (fun f t1 hsp => ?_) (fun e t1 he => he))
  · obtain ⟨a, B, sI, pi, σ1, H1, cls, d, rfl, Jt, nb, up, sky, na, os, ag, b, hb1, hyes, hno⟩ := xx
    have J : Inv X pins σ1 H1 sI := Jt.ofTry Io
    have sk2 : Sky B (X.env :: X.outer) a (L2N.Zn cls d) X.env.locals t.heap := by rw [← hs]; exact sky
    show wpAny (model X.prog X.w) X.A (noteFrame (.ref a) X.env) _ _ _
    refine L2N.Sky.land L2N.Zn.steady fr0 hf sk2 fun g3 fl3 up3 => ?_
    have J3 : Inv X pins σ1 H1 { t with heap := g3 } := J.landed nb fl3.1 (up.trans up3) os ag
    obtain ⟨o3, v3, e3, z3, dd3⟩ := fl3.there
    have nfr : a ∉ frs (X.env :: X.outer) := fun hm => by
      obtain ⟨_, o', e', hnf⟩ := fl3.2.2.1.mem hm
      rw [e3] at e'
      cases e'
      exact hnf _ dd3
    have nL : a ≠ X.env.locals := fun z => nfr (List.mem_filterMap.mpr ⟨X.env, .head _, by rw [hf, z]⟩)
    have nF : a ∉ X.fs := fun hm => by
      obtain ⟨ev, hev, q⟩ := List.mem_filterMap.mp hm
      exact nfr (List.mem_filterMap.mpr ⟨ev, .tail _ hev, q⟩)
    have nI : sI.heap.get? a = none := by
      cases q : sI.heap.get? a with
      | none => rfl
      | some o =>
        have z := nb a o q (by rw [hs]; exact nfr)
        rw [fl3.2.1] at z
        cases z
    have n0 : X.s_0.heap.get? a = none := by
      cases q : X.s_0.heap.get? a with
      | none => rfl
      | some o =>
        obtain ⟨o', q'⟩ := J.base.there a o q (by rw [hex]; exact fun z => nomatch z)
        rw [nI] at q'
        cases q'
    have npn : ∀ p ∈ X.pn ++ pins, p.1 ≠ a := fun p hp z => by
      have q := (J.pin p hp).1
      rw [z, nI] at q
      cases q
    have nc : ∀ y c, X.env.cells.lookup y = some c → c ≠ a := fun y c e z => by
      obtain ⟨v, o, q, _⟩ := J.cell y c e
      rw [z, nI] at q
      cases q
    have S3 := J3.suite e3 dd3 na nL nF
    refine wpAny_handleBy_cons (codeAny_handlers_test ?_) (by intro q; cases q)
    have lt : PySem.W.Looks (model X.prog X.w) g3 (typeOf (.ref a)) cls := fun A Q E s k q => wpAny_typeOf_ref (k _ _ e3) (by rw [z3.1]; exact q)
    have lm := PySem.W.exm_one (M := model X.prog X.w) J3.kIn lt hb1
    have ask : ∀ {Q : Value → Shared → Prop} {E : Value → Shared → Prop}, Q c { t with heap := g3 } → wpAny (model X.prog X.w) (X.A.mark (some (.ref a))) (eval (.Name x np) X.env) Q E { t with heap := g3 } := fun {Q E} q => by
      obtain ⟨hg, hdbg, hm | ⟨hm, hv, hnn⟩⟩ := hc
      · exact ld_glob (X := X.suite a ((a, o3) :: (X.pn ++ pins))) S3 hg hm q hdbg
      · exact ld_blt (X := X.suite a ((a, o3) :: (X.pn ++ pins))) S3 hg hm hv q hnn hdbg
    refine ask (lm.here ?_)
    cases b with
    | true =>
      refine codeAny_handlers_suite_as (HandSPX.lands_againZ fl3 fun g4 fl4 up4 => ?_)
      have J4 : Inv X pins σ1 H1 { t with heap := g4 } := J.landed nb fl4.1 ((up.trans up3).trans up4) os ag
      obtain ⟨o4, v4, e4, z4, dd4⟩ := fl4.there
      have S4 := J4.suite e4 dd4 na nL nF
      refine store_ok (X := X.suite a ((a, o4) :: (X.pn ++ pins))) (v := .ref a) S4 hN hi lcn rfl (fun t5 S5 => ?_) (.inr hln)
      have st : PSs (X.suite a ((a, o4) :: (X.pn ++ pins))) [.Return (some (.Name n pv)) pr] (tRet (tVar i)) := pss_one (ps_ret (pe_var (i := i) hi (.inl hln) d1 d2))
      have li : i < σ1.length := by rw [J4.len]; exact (List.getElem?_eq_some_iff.mp hi).1
      refine wpAny_mono (st.run [] t5 _ H1 ⟨fun _ _ => False, fun v K => v = .ref a ∧ K = H1, fun _ _ => False, fun _ _ => False⟩ S5 ⟨.ref a, by rw [List.getElem?_set_self li], rfl, rfl⟩) (fun f t6 hsp => ?_) (fun _ _ z => False.elim z)
      cases f with
      | next => obtain ⟨_, _, _, z⟩ := hsp; exact z.elim
      | brk => obtain ⟨_, _, _, z⟩ := hsp; exact z.elim
      | cont => obtain ⟨_, _, _, z⟩ := hsp; exact z.elim
      | ret u =>
        obtain ⟨v6, σ6, H6, S6, r6, rfl, rfl⟩ := hsp
        have J6 : Inv X (pins ++ [(a, o4)]) σ6 H6 t6 := (S6.unsuite Io).pins_of fun p hp => by
          rcases List.mem_append.mp hp with z | z
          · exact (S6.unsuite Io).pin p (List.mem_append_right _ z)
          · exact S6.pin p (List.mem_append_left _ (by rw [List.mem_singleton.mp z]; exact .head _))
        exact gone_ok J6 hN hi hln fun t7 J7 => ⟨_, _, _, inv_know J7 hex n0 npn nc, r6, hyes rfl a o4 v4 na z4 dd4⟩
    | false =>
      refine wpAny_handleBy_nil ?_
      obtain ⟨k1, k2, k3, oe, vs, T, oT, ts', he, hz, hd, h1, hr⟩ := id fl3
      unfold PySem.passOn
      refine wpAny_bind (wpAny_field he hd h1 ?_)
      rw [if_neg (show ¬ ((Value.ref T == Value.none) = true) from by simp)]
      have fin : wpAny (model X.prog X.w) X.A (setFlight (.ref a) X.env.frame) (fun _ t4 => wpAny (model X.prog X.w) X.A (throw (.ref a) : Sem Flow) (SP X pins D) X.xe t4) X.xe { t with heap := g3 } := by
        rw [hf]
        refine HandSPX.setFlight_upZ fl3 fun g4 hh4 up4 => wpAny_throw (tk _ _ ⟨a, B, sI, pins, σ1, H1, cls, d, rfl, J, nb, (up.trans up3).trans up4, .inr (.inr (by rw [hs]; exact hh4)), na, os, ag, hno rfl⟩)
      first
        | exact wpAny_bind (wpAny_pure (wpAny_bind fin))
        | exact wpAny_bind fin
  · cases f with
    | next =>
      obtain ⟨σ2, H2, J2, q⟩ := hsp
      exact wpAny_execs_nil ⟨σ2, H2, J2.ofTry Io, q⟩
    | brk => obtain ⟨σ2, H2, J2, q⟩ := hsp; exact ⟨σ2, H2, J2.ofTry Io, q⟩
    | cont => obtain ⟨σ2, H2, J2, q⟩ := hsp; exact ⟨σ2, H2, J2.ofTry Io, q⟩
    | ret u => obtain ⟨v, σ2, H2, J2, r, q⟩ := hsp; exact ⟨v, σ2, H2, J2.ofTry Io, r, q⟩
end
end DL
namespace DL
open PySem PySem.Spec PyProof.Rows L2 L2H HotX LamX
/-! ### the def that calls what it got and gives the exception back -/
def wMetE (C : Ct) (okn : Nat → Bool) (Q : VK) : XK := fun cls d H => ∃ n F φ γ, okn n = true ∧ cls = .ref (C.exc n) ∧ d = none ∧ CRel C F φ H γ ∧ ∀ v F' φ' H', Ext F φ H F' φ' H' → CRel C F' φ' H' γ → Den C φ' F' (.exc n) v → Q v H'
section
variable {X : Cx} {C : Ct} {okn : Nat → Bool}
theorem met_run {Ng : List Str} {x a e se q : Str} {sg : Scope} {g CS f c' : Addr} {cdg : Value} {j : Nat} {s : Shared} {H : Hp} {Q : VK} {tl : XK → Hp → VK → Prop} {p1 p2 p3 p4 p5 p6 p7 p8 p9 p10 : Pos}
    (hC : C.P = X.prog ∧ C.w = X.w ∧ C.K = X.K) (hN : Ng.Nodup) (h1 : Ng[1]? = some e) (hle : sg.names.lookup e = some .local) (hse : sg.names.lookup se = some .globalImplicit) (hde : (se == ("__debug__" : Str)) = false) (hme : X.mg se = some (.ref CS))
    (he1 : (e == ("__debug__" : Str)) = false) (he2 : (e == ("__classdict__" : Str)) = false)
    (hx : ∀ n, okn n = true → PySem.W.exmOne X.K (.ref (C.exc n)) (.ref CS) = some true)
    (act : ∀ (W : WX) (pn : List (Addr × Obj)) (xe : Value → Shared → Prop) (E : XK) (p1 p2 : Pos), L2N.Takes ((cxOf C8.CX0 X.prog X.w X.K X.mg X.base Ng x sg g cdg X.A X.stack s H C8.E0).tr pn xe) W → (∀ cls d σ' H', E cls d H' → W cls d σ' H') →
      PE ((cxOf C8.CX0 X.prog X.w X.K X.mg X.base Ng x sg g cdg X.A X.stack s H C8.E0).tr pn xe) (.Call (.Name a p1) [] [] p2) (fun σZ HZ Q => σZ[0]? = some (some (.ref f)) ∧ HZ c' = some (CodeO c' q) ∧ tl E HZ Q))
    (hc : H c' = some (CodeO c' q)) (h : tl (wMetE C okn Q) H (fun _ H1 => Q .non H1)) :
    ∃ t, PSs (cxOf C8.CX0 X.prog X.w X.K X.mg X.base Ng x sg g cdg X.A X.stack s H C8.E0).nox [.Try [.Expr (.Call (.Name a p1) [] [] p2) p3] [.ExceptHandler (some (.Name se p4)) (some e) [.Return (some (.Name e p5)) p6] p7] [] [] p8, .Return (some (.Constant .none j p9)) p10] t ∧ t { nx := fun _ H' => Q .non H', rt := Q } (L2.start Ng [.ref f]) H := by
  have hgl : Gl (cxOf C8.CX0 X.prog X.w X.K X.mg X.base Ng x sg g cdg X.A X.stack s H C8.E0).nox se := hse
  refine ⟨_, pss_cons (ps_met (X := (cxOf C8.CX0 X.prog X.w X.K X.mg X.base Ng x sg g cdg X.A X.stack s H C8.E0).nox) (c := .ref CS) (i := 1) (Wout := fun _ _ _ _ => False)
      (tb := fun W D σ H => ∃ Ech : XK, (∀ cls d σ' H', Ech cls d H' → W cls d σ' H') ∧ σ[0]? = some (some (.ref f)) ∧ H c' = some (CodeO c' q) ∧ tl Ech H (fun _ H1 => D.nx σ H1))
      rfl rfl rfl hN h1 hle ⟨hgl, hde, .inl hme⟩ takesN0 he1 he2 (fun W pn xe tk _ => ?_)) (pss_one (ps_ret (pos := p10) (pe_non (j := j) (pos := p9)))), ?_⟩
  · refine ⟨fun pins s' σ H' D I ⟨Ech, hW, h1, h2, h3⟩ => ?_⟩
    exact (pss_one (ps_expr (pos := p3) (act W pn xe Ech p1 p2 tk hW) (by rfl))).run pins s' σ H' D I ⟨h1, h2, h3⟩
  · refine ⟨wMetE C okn Q, fun cls d σ' H' wt => ?_, ?_, hc, h⟩
    · obtain ⟨n, F, φ, γ, ho, rfl, rfl, cr, w⟩ := wt
      refine ⟨true, hx n ho, fun _ b oe vs nb hz hd => ?_, fun z => Bool.noConfusion z⟩
      refine w _ (upd F b (knO b oe)) φ _ (ext_lay cr.sub nb) (cr.lay nb) ?_
      rw [Den]
      exact ⟨b, oe, vs, rfl, upd_same, hz.1, hz.2.1, hd⟩
    · unfold L2.start
      rfl
end
def eMet (okn : Nat → Bool) (f : ESem) : ESem := fun ρ γ => match f ρ γ with
  | .ok _ γ' => .ok .non γ'
  | .err n γ' => if okn n = true then .ok (.exc n) γ' else .stuck
  | .stuck => .stuck
structure MetOk (C : Ct) (mg : Str → Option Value) (base : Heap) (k : Nat) (g : Addr) (okn : Nat → Bool) : Prop where
  run : ∀ (X : Cx) (f c' : Addr) (q : Str) (s : Shared) (H : Hp) (Q : VK) (tl : XK → Hp → VK → Prop), C.P = X.prog ∧ C.w = X.w ∧ C.K = X.K ∧ mg = X.mg ∧ base = X.base → Room (k + 1) X.A → Env0 X.prog X.w X.K X.mg X.base X.A X.stack s H →
    (∀ (Ng : List Str) (x : Str) (sg : Scope) (cdg : Value) (a : Str) (W : WX) (pn : List (Addr × Obj)) (xe : Value → Shared → Prop) (E : XK) (p1 p2 : Pos), Ng[0]? = some a → Vis sg a → (a == ("__debug__" : Str)) = false → (a == ("__classdict__" : Str)) = false → Room k (X.A.deeper (envOfC x sg s.heap.objs.size g cdg)) →
      L2N.Takes ((cxOf C8.CX0 X.prog X.w X.K X.mg X.base Ng x sg g cdg X.A X.stack s H C8.E0).tr pn xe) W → (∀ cls d σ' H', E cls d H' → W cls d σ' H') →
      PE ((cxOf C8.CX0 X.prog X.w X.K X.mg X.base Ng x sg g cdg X.A X.stack s H C8.E0).tr pn xe) (.Call (.Name a p1) [] [] p2) (fun σZ HZ Q => σZ[0]? = some (some (.ref f)) ∧ HZ c' = some (CodeO c' q) ∧ tl E HZ Q)) →
    H c' = some (CodeO c' q) → tl (wMetE C okn Q) H (fun _ H1 => Q .non H1) → codeAny (model X.prog X.w) X.A (.call (.ref g) ⟨[.ref f], []⟩) (CR C8.CX0 X.stack X.prog X.w H s Q C8.E0) s
theorem met_ok {C : Ct} {mg : Str → Option Value} {base : Heap} {okn : Nat → Bool} {Ng : List Str} {x a e se : Str} {pg : Arguments} {sg : Scope} {g CS : Addr} {fd : FuncData} {k j : Nat} {p1 p2 p3 p4 p5 p6 p7 p8 p9 p10 : Pos}
    (Fd : FunD C.K x x pg [.Try [.Expr (.Call (.Name a p1) [] [] p2) p3] [.ExceptHandler (some (.Name se p4)) (some e) [.Return (some (.Name e p5)) p6] p7] [] [] p8, .Return (some (.Constant .none j p9)) p10] sg [] [] g fd) (S : FnScope Ng [a] sg) (hb : Binds C.K fd [a] [])
    (h0 : Ng[0]? = some a) (h1 : Ng[1]? = some e) (hla : Vis sg a) (hle : sg.names.lookup e = some .local) (hse : sg.names.lookup se = some .globalImplicit) (hme : mg se = some (.ref CS))
    (hx : ∀ n, okn n = true → PySem.W.exmOne C.K (.ref (C.exc n)) (.ref CS) = some true)
    (d1 : (se == ("__debug__" : Str)) = false := by decide) (d3 : (e == ("__debug__" : Str)) = false := by decide) (d4 : (e == ("__classdict__" : Str)) = false := by decide) (d5 : (a == ("__debug__" : Str)) = false := by decide) (d6 : (a == ("__classdict__" : Str)) = false := by decide) : MetOk C mg base k g okn := by
  refine ⟨fun X f c' q s H Q tl hC hr e0 act hc h => ?_⟩
  obtain ⟨eP, ew, eK, em, eb⟩ := hC
  subst em eb
  obtain ⟨oc, od, dV, kV, doc, pm, an, cdv, ct, osl, rfl, lk, hcd, _, _⟩ := Fd.ex
  rw [eK] at lk hcd hb
  have KX : X.K.In s.heap := e0.mod.kin.keeps fun b o e => (e0.bs b o e).1
  refine run_ofS (N := Ng) (ps := [a]) (us := [.ref f]) (vs := [.ref f]) lk hcd S hr e0 (hb s [.ref f] KX rfl) (.cons rfl .nil) rfl fun hr' => ?_
  obtain ⟨t, ht, hq⟩ := met_run (X := X) (j := j) (p1 := p1) (p2 := p2) (p3 := p3) (p4 := p4) (p5 := p5) (p6 := p6) (p7 := p7) (p8 := p8) (p9 := p9) (p10 := p10) (x := x) (g := g) (cdg := cdv) (sg := sg) (s := s) ⟨eP, ew, eK⟩ S.nd h1 hle hse d1 hme d3 d4 (fun n ho => by rw [← eK]; exact hx n ho) (fun W pn xe E q1 q2 tk hW => act Ng x sg cdv a W pn xe E q1 q2 h0 hla d5 d6 hr' tk hW) hc h
  exact ⟨t, ht.nox, hq⟩
section
variable {X : Cx} {B : Fx} {W : WX} {okn : Nat → Bool}
theorem de_met {x : Str} {g c P : Addr} {k : Nat} {params : Arguments} {body : Expr} {scope : Scope} {fe : ESem} {p lpos pos : Pos} (L0 : B.C.P = X.prog ∧ B.C.w = X.w ∧ B.C.K = X.K) (TO : MetOk B.C X.mg X.base (k + 1) g okn) (hm : X.mg x = some (.ref g)) (hk : PySem.W.keepIn X.K (.ref g) = true)
    (TB : TabB X.base X.mg c P) (hcode : X.env.code = .ref c) (hmT : (P, X.env.qual ++ "<lambda>") ∈ B.C.T) (hu : ∀ p ∈ B.C.T, p.1 = P → p.2 = X.env.qual ++ "<lambda>") (hr : Room (k + 2) X.A) (L : LamS X.env.scope scope)
    (hbody : ∀ (A : Around) (outer : List PySem.Env) (s : Shared) (H : Hp) (E : XK) (f c' : Addr), Room k (A.deeper (lamEnv X scope s.heap.objs.size f c')) → PE (lamN X A outer s H E scope f c') body (tE B (fun cls d _ H => E cls d H) fe))
    (hg : Gl X x := by rfl) (hdef : defaultsOf params X.env = ([], []) := by rfl)
    (hbind : ∀ (q : Str) (cl : List (Str × Addr)) (pm cv ctv : Value), bindArgs (PySem.W.kla_fn "<lambda>" q params body scope cl pm cv ctv) ⟨[], []⟩ = pure [] := by intro _ _ _ _ _; rfl)
    (hdb : (x == ("__debug__" : Str)) = false := by decide) : PE X (.Call (.Name x p) [.Lambda params body scope lpos] [] pos) (tE B W (eMet okn fe)) := by
  refine ⟨fun pins s σ H Q I h => ?_⟩
  obtain ⟨F, φ, ρ, γ, R, P0⟩ := h
  refine wpAny_Call_Name_kw (ld_glob I hg hm ?_ hdb)
  refine PySem.W.callWith_K (h₀ := X.base) I.ok.mod.kin hk ?_ (by rfl) (by rfl)
  show wpAny _ _ (spliced ((false, eval (.Lambda params body scope lpos) X.env) :: backTo pos (starEach [] X.env))) _ _ s
  refine Calls.spliced_cons (lam_new I R TB hcode hmT hu hdef (L.has I.ok) fun f c' pm' ctv F1 H1 s' I1 x1 R1 hf hfn hfr hco => ?_)
  refine Calls.spliced_nil ⟨I1.kIn, ?_⟩
  have ht : tE B (fun cls d _ H => wMetE B.C okn Q cls d H) fe σ H1 (fun _ H2 => Q .non H2) := by
    refine ⟨F1, φ, ρ, γ, R1, ?_⟩
    unfold eMet at P0
    cases e : fe ρ γ with
    | ok d γ' =>
      rw [e] at P0
      exact fun b F' φ' H' x r _ => P0 .non F' φ' H' (x1.trans x) r (by show Den _ _ _ _ _; rw [Den])
    | err n γ' =>
      rw [e] at P0
      intro F' φ' H' x r
      by_cases ho : okn n = true
      · simp only [ho, if_true] at P0
        exact ⟨n, F', φ', γ', ho, rfl, rfl, r.c, fun v F2 φ2 H2 x2 c2 hv => P0 v F2 φ2 H2 (x1.trans (x.trans x2)) (r.step x2 c2) hv⟩
      · simp only [ho] at P0
        exact P0.elim
    | stuck => rw [e] at P0; exact P0.elim
  have rc := TO.run X f c' (X.env.qual ++ "<lambda>") s' H1 Q (fun E H' Q' => tE B (fun cls d _ H => E cls d H) fe σ H' Q') ⟨L0.1, L0.2.1, L0.2.2, rfl, rfl⟩ hr I1.env0
    (fun Ng x sg cdg a W pn xe E p1 p2 hN hv hd hcd hr2 tk hW => act_N (i := 0) I1 L hf hfn hfr (hbind _ _ _ _ _) tk hW hr2 (fun A outer s H hr3 => hbody A outer s H E f c' hr3) hN hv hd hcd) hco ht
  refine wpAny_call (codeAny_mono rc fun r s2 hq => ?_)
  cases r with
  | error e => exact (show False from hq).elim
  | ok fl =>
    cases fl with
    | ret u => exact I1.after hq
    | next => exact False.elim hq
    | brk => exact False.elim hq
    | cont => exact False.elim hq
end
/-! ### isinstance(e, C), e an exception given back -/
def rIsX (K : PySem.W.Frag) : List V → Hp → VK → Prop := fun xs H Q => ∃ (a D : Addr) (oe : Obj) (fs : Array Value) (c : V) (cv : Value) (b : Bool), xs = [.ref a, c] ∧ H a = some (knO a oe) ∧ oe.cls = .ref D ∧ oe.dict = none ∧ oe.data = .fields fs ∧ ExcC K D ∧ (∀ u, RelV c u → u = cv) ∧ PySem.W.kitOne K (.ref D) cv = some b ∧ Q (.bl b) H
theorem call_isX {X : Cx} : CallR X (.builtin "isinstance") (rIsX X.K) := by
  intro pins s σ H xs us Q I r h
  obtain ⟨a, D, oe, fs, c, cv, b, rfl, ha, h1, h2, h3, C, hcv, e, q⟩ := h
  obtain ⟨u, u', rfl, rx, rt⟩ := vals2 r
  cases rx
  have ec := hcv _ rt
  subst ec
  have hget : s.heap.get? a = some oe := (I.hok a _ ha).1
  have J : PySem.W.InstAt s.heap a oe D none := by
    obtain ⟨oc, od, oda, osl⟩ := oe
    dsimp only at h1 h2 h3
    subst h1 h2 h3
    exact ⟨hget, rfl, rfl, trivial⟩
  exact PySem.W.kia_one (PySem.W.handS_kitx_exc C.hg C.hk C.hs C.hd C.ha C.hn C.ht C.hm) I.kIn J e (fun z => nomatch z) fun tk => ⟨.bl b, H, I.kept (t' := tk) fun _ _ z => z, rfl, q⟩
def eIsX (okn test : Nat → Bool) (f : ESem) : ESem := fun ρ γ => (f ρ γ).bind fun d γ => match d with
  | .exc n => if okn n = true then .ok (.bl (test n)) γ else .stuck
  | _ => .stuck
theorem de_isX {X : Cx} {B : Fx} {W : WX} {okn test : Nat → Bool} {o : Expr} {fo : ESem} {y : Str} {p p2 pos : Pos} {c : V} {cv : Value} (hm : X.mg "isinstance" = none) (he : PE X o (tE B W fo)) (h2 : PE X (.Name y p2) (tC c)) (hcv : ∀ u, RelV c u → u = cv)
    (hk : ∀ n, okn n = true → ExcC X.K (B.C.exc n) ∧ PySem.W.kitOne X.K (.ref (B.C.exc n)) cv = some (test n)) (hg : Gl X "isinstance" := by rfl)
    (e1 : starEach [o, Expr.Name y p2] X.env = (false, eval o X.env) :: starEach [Expr.Name y p2] X.env := by rfl) (e2 : starEach [Expr.Name y p2] X.env = (false, eval (.Name y p2) X.env) :: starEach [] X.env := by rfl) (hpl : (backTo pos (starEach [Expr.Name y p2] X.env)).any (·.1) = false := by rfl) :
    PE X (.Call (.Name "isinstance" p) [o, .Name y p2] [] pos) (tE B W (eIsX okn test fo)) :=
  PE.imp (pe_callB call_isX hg hm boot_isinstance (pa_cons he (pa_cons h2 pa_nil e2) e1) (by decide) (by decide) e1 hpl) fun σ H Q ⟨F, φ, ρ, γ, R, P⟩ => by
    refine run1 R P fun d γ1 v F1 φ1 H1 x1 R1 d1 P1 => ?_
    cases d with
    | exc n =>
      have d1 : Den B.C φ1 F1 (.exc n) v := d1
      rw [Den] at d1
      obtain ⟨a, oe, fs, rfl, ha, h3, h4, h5⟩ := d1
      simp only at P1
      by_cases ho : okn n = true
      · rw [if_pos ho] at P1
        exact ⟨a, B.C.exc n, oe, fs, c, cv, test n, rfl, R1.c.sub _ _ ha, h3, h4, h5, (hk n ho).1, hcv, (hk n ho).2, P1 _ F1 φ1 H1 (Ext.refl _ _ _) R1 (by show Den _ _ _ _ _; rw [Den])⟩
      · rw [if_neg ho] at P1; exact P1.elim
    | _ => exact P1.elim
/-! ### what is not walked -/
def sStuck : SSem := fun _ _ => .stuck
theorem dss_stuck {X : Cx} {B : Fx} {W : WX} {st : List Stmt} : PSs X st (tS B W sStuck) := ⟨fun _ _ _ _ _ _ h => by obtain ⟨_, _, _, _, _, z⟩ := h; exact False.elim z⟩
end DL

/-! DLC: dicts as cells; three names at once -/
namespace DL
open PySem PySem.Spec PyProof.Rows L2
section
variable {X : Cx} {B : Fx} {W : WX} {e : Expr} {pos pos' : Pos} {F H : Hp} {φ : List Addr} {ρ : Env} {γ : List D} {σ : St}
/-! ### what is new becomes a cell -/
theorem Rel.toCell {a : Addr} {d : D} (R : Rel B F φ H ρ γ σ) (al : Alone B F φ a) (ow : Own B.C φ F H a d) (nj : ∀ (j : Nat) (d' : D), ρ[j]? = some (some (.mine d')) → σ[j]? ≠ some (some (.ref a))) :
    Rel B F (φ ++ [a]) H ρ (γ ++ [d]) σ := by
  refine ⟨⟨R.c.sub, by simp [R.c.len], ?_, fun b hb => ?_, fun n d' b e1 e2 => ?_, R.c.tab⟩, ⟨R.e.f, R.e.p.trans ⟨[a], rfl⟩, R.e.k, R.e.nF, fun b hb => ?_, R.e.t⟩, R.len, fun i d' e => ?_, R.dj⟩
  · rw [List.nodup_append]
    exact ⟨R.c.nd, by simp, fun b hb c hc => by rw [List.mem_singleton.mp hc]; intro z; subst z; exact al.p hb⟩
  · rcases List.mem_append.mp hb with h | h
    · exact R.c.cF b h
    · rw [List.mem_singleton.mp h]; exact al.f
  · by_cases hn : n < φ.length
    · rw [List.getElem?_append_left hn] at e2
      rw [List.getElem?_append_left (by rw [R.c.len]; exact hn)] at e1
      exact (R.c.cell n d' b e1 e2).same (same_refl F) ⟨[a], rfl⟩ fun o ho => ho
    · have e : n = φ.length := by
        obtain ⟨h, _⟩ := List.getElem?_eq_some_iff.mp e2
        simp at h
        omega
      subst e
      rw [List.getElem?_append_right (Nat.le_refl _), Nat.sub_self] at e2
      rw [List.getElem?_append_right (by rw [R.c.len]; exact Nat.le_refl _), R.c.len, Nat.sub_self] at e1
      cases e1
      cases e2
      exact ow.same (same_refl F) ⟨[a], rfl⟩ fun o ho => ho
  · rcases List.mem_append.mp hb with h | h
    · exact R.e.nφ b h
    · rw [List.mem_singleton.mp h]; exact .inr al.h
  · rcases R.fz i d' e with ⟨v, h1, h2⟩ | ⟨d2, b, rfl, h2, h3, h4⟩
    · exact .inl ⟨v, h1, Den.same (same_refl F) ⟨[a], rfl⟩ _ _ h2⟩
    · have hb : b ≠ a := fun z => nj i d2 e (by rw [h2, z])
      exact .inr ⟨d2, b, rfl, h2, ⟨h3.f, fun z => by
        rcases List.mem_append.mp z with z | z
        · exact h3.p z
        · exact hb (List.mem_singleton.mp z), h3.h⟩, h4.same (same_refl F) ⟨[a], rfl⟩ fun o ho => ho⟩
def eToC (f : ESem) : ESem := fun ρ γ => (f ρ γ).bind fun d γ => .ok (.cell γ.length) (γ ++ [d])
theorem de_toC {f : ESem} (h : PE X e (tF B W f)) : PE X e (tE B W (eToC f)) := PE.imp h fun σ H Q q => by
  obtain ⟨F, φ, ρ, γ, R0, P⟩ := q
  refine ⟨F, φ, ρ, γ, R0, ?_⟩
  unfold eToC at P
  cases e : f ρ γ with
  | ok d γ1 =>
    rw [e] at P
    intro b F' φ' H' x r1 r2
    obtain ⟨a', rfl, al, ow, nj, n0⟩ := r2
    have r3 := r1.toCell al ow nj
    refine P _ F' (φ' ++ [a']) H' ⟨x.f, x.p.trans ⟨[a'], rfl⟩, x.k, x.nF, fun b hb => ?_, x.t⟩ r3 ?_
    · rcases List.mem_append.mp hb with h | h
      · exact x.nφ b h
      · rw [List.mem_singleton.mp h]; exact .inr n0
    · show Den _ _ _ _ _
      rw [Den]
      exact ⟨a', by rw [r1.c.len]; simp, rfl⟩
  | err c γ1 => rw [e] at P; exact P
  | stuck => rw [e] at P; exact P
/-! ### k in d, d a cell -/
theorem cell_dic {n : Nat} {v : V} {kvs : List (NestedKey × V)} (R : Rel B F φ H ρ γ σ) (h : Den B.C φ F (.cell n) v) (e : γ[n]? = some (.dic kvs)) : ∃ l o, v = .ref l ∧ φ[n]? = some l ∧ (l == sysModules) = false ∧ H l = some (knO l o) ∧ DicO B.C F o kvs := by
  rw [Den] at h
  obtain ⟨l, e1, rfl⟩ := h
  obtain ⟨h0, o, h1, h2⟩ := R.c.cell n _ l e e1
  exact ⟨l, o, rfl, e1, h0, h1, h2⟩
def rInN (B : Fx) (neg : Bool) : R2 := fun x y H Q => ∃ F a ob kvs key b, y = .ref a ∧ x = .ref b ∧ Same F H ∧ (a == sysModules) = false ∧ H a = some (knO a ob) ∧ DicO B.C F ob kvs ∧ NDen B.C.K F key (.ref b) ∧ key.depth ≤ 8 ∧ Q (.bl (neg ^^ (dget kvs key).isSome)) H
theorem op_notInN (L : Lk X B) (hu : X.A.units + 64 < cLine) : OpR X (compareOp .NotIn) (rInN B true) := by
  intro pins s σ H x y v u Q I rx ry h
  obtain ⟨F, a, ob, kvs, key, b, rfl, rfl, sm, h0, h1, hd, hk, hdp, q⟩ := h
  obtain rfl : v = Value.ref b := rx
  obtain rfl : u = Value.ref a := ry
  obtain ⟨xs, hD, px, hks⟩ := dic_at L I sm h1 hd
  have hkey : (nestedKind X.prog X.w).is s.heap key b := ⟨nden_is I sm key (.ref b) _ (by rw [L.K]; exact hk) rfl, hdp⟩
  refine notIn_keyed (knd := nestedKind X.prog X.w) (by show X.A.units + 1 + 8 < cLine; omega) hkey h0 ⟨xs, hD, rfl⟩ ?_
  refine ⟨_, H, I.tok _, ?_, q⟩
  rw [valueAt_pairsH]
  cases q2 : dget kvs key with
  | none => rw [px_none px q2]; rfl
  | some w =>
    obtain ⟨p, hp, r⟩ := px_get px q2
    rw [hp]
    rfl
def cNotInC (fk fm : ESem) : CSem := fun ρ γ => (fk ρ γ).bind fun k γ => (fm ρ γ).bind fun m γ => match m with
  | .cell n => (match γ[n]? with
    | some (.dic kvs) => (match D.tkey k with
      | some key => .ok (!(dget kvs key).isSome) γ
      | none => .stuck)
    | _ => .stuck)
  | _ => .stuck
theorem dt_notInC {a b : Expr} {fk fm : ESem} (L : Lk X B) (hu : X.A.units + 64 < cLine) (ha : PE X a (tE B W fk)) (hb : PE X b (tE B W fm)) (hm : behindInMarks .NotIn b = false := by rfl) : PT X (.Compare a [.NotIn] [b] pos) (tT B W (cNotInC fk fm)) :=
  PT.imp (pt_cmpR (op_notInN L hu) ha hb hm) fun σ H Q ⟨F, φ, ρ, γ, R, P⟩ => by
    refine run1 R P fun k γ1 u F1 φ1 H1 x1 R1 d1 P1 => ?_
    refine run1 R1 P1 fun m γ2 w F2 φ2 H2 x2 R2 d2 P2 => ?_
    have d1' : Den B.C φ2 F2 k u := Den.same x2.f x2.p _ _ d1
    cases m with
    | cell n =>
      simp only at P2
      cases eg : γ2[n]? with
      | none => rw [eg] at P2; exact P2.elim
      | some dd =>
        rw [eg] at P2
        cases dd with
        | dic kvs =>
          simp only at P2
          cases q : D.tkey k with
          | none => rw [q] at P2; exact P2.elim
          | some key =>
            rw [q] at P2
            obtain ⟨b', rfl, hk, hdp⟩ := tkey_ok q d1'
            obtain ⟨l, o, rfl, h1, h2, h3, h4⟩ := cell_dic R2 d2 eg
            exact ⟨F2, l, o, kvs, key, b', rfl, rfl, R2.c.sub, h2, h3, h4, hk, hdp, _, rfl, P2 _ F2 φ2 H2 (Ext.refl _ _ _) R2 (by show _ = _; simp)⟩
        | _ => exact P2.elim
    | _ => exact P2.elim
/-! ### d[k] = v, d a cell -/
def sSetCD (fo fk fv : ESem) : SSem := fun ρ γ => toOut (fv ρ γ) ρ fun v γ => toOut (fo ρ γ) ρ fun o γ => toOut (fk ρ γ) ρ fun k γ => match o with
  | .cell n => (match γ[n]? with
    | some (.dic kvs) => (match D.tkey k with
      | some key => if v.flat = true ∧ kvs.length ≤ 1000000 then .nx ρ (γ.set n (.dic (dput kvs key v.v))) else .stuck
      | none => .stuck)
    | _ => .stuck)
  | _ => .stuck
theorem ds_setCD {oe ke ve : Expr} {fo fk fv : ESem} (L : Lk X B) (hu : X.A.units + 64 < cLine) (ho : PE X oe (tE B W fo)) (hk : PE X ke (tE B W fk)) (hval : PE X ve (tE B W fv))
    (ha : ∀ v, assign (.Subscript oe ke pos') X.env v = (do
      let ov ← holding [v] (eval oe X.env)
      let iv ← holding [v, ov] (eval ke X.env)
      standAt pos'
      holding [v, ov, iv] (setItem ov iv v)
      release [v, ov, iv] []) := by intro _; rfl)
    (hs : swapsWithSole [.Subscript oe ke pos'] ve pos.line X.env = pure false := by rfl) (hw : swappedStores [.Subscript oe ke pos'] ve X.env = pure none := by rfl)
    (h1 : (assignEach [.Subscript oe ke pos'] X.env).map (·.2) = [assign (.Subscript oe ke pos') X.env] := by rfl) :
    PS X (.Assign [.Subscript oe ke pos'] ve pos) (tS B W (sSetCD fo fk fv)) := PS.imp (ps_asg hval (pg_sub ho hk (set_N L hu) ha) hs hw h1) fun E σ H ⟨F, φ, ρ, γ, R, P⟩ => by
  refine run1S R P fun v γ1 u F1 φ1 H1 x1 R1 d1 P1 => ?_
  refine run1S R1 P1 fun o γ2 y F2 φ2 H2 x2 R2 d2 P2 => ?_
  refine run1S R2 P2 fun k γ3 z F3 φ3 H3 x3 R3 d3 P3 => ?_
  have d3 : Den B.C φ3 F3 k z := d3
  cases o with
  | cell n =>
    dsimp only at P3
    cases eg : γ3[n]? with
    | none => rw [eg] at P3; exact P3.elim
    | some dd =>
      rw [eg] at P3
      cases dd with
      | dic kvs =>
        dsimp only at P3
        cases q : D.tkey k with
        | none => rw [q] at P3; exact P3.elim
        | some key =>
          rw [q] at P3
          simp only at P3
          by_cases hc : v.flat = true ∧ kvs.length ≤ 1000000
          · rw [if_pos hc] at P3
            have d1' : Den B.C φ3 F3 v u := Den.same x3.f x3.p _ _ (Den.same x2.f x2.p _ _ d1)
            have d2' : Den B.C φ3 F3 (.cell n) y := Den.same x3.f x3.p _ _ d2
            obtain ⟨l, o, rfl, h1, h2, h3, h4⟩ := cell_dic R3 d2' eg
            obtain ⟨b, rfl, hkd, hdp⟩ := tkey_ok q d3
            obtain ⟨e1, _⟩ := flat_den hc.1 d1'
            refine ⟨F3, l, o, kvs, key, b, rfl, rfl, R3.c.sub, h3, h4, hkd, hdp, hc.2, fun ob' hd' => ?_⟩
            obtain ⟨x4, R4⟩ := R3.setCell (d := .dic (dput kvs key v.v)) (u := knO l ob') h1 ⟨h2, ob', upd_same, by rw [← e1]; exact hd'⟩
            exact P3 σ F3 φ3 _ (same_refl _) (List.prefix_refl _) R4
          · rw [if_neg hc] at P3; exact P3.elim
      | _ => exact P3.elim
  | _ => exact P3.elim
/-! ### a, b, c = x, y, [..] -/
def sPar3N (i j l : Nat) (f g h : ESem) : SSem := fun ρ γ => toOut (f ρ γ) ρ fun d γ => toOut (g ρ γ) ρ fun d' γ => toOut (h ρ γ) ρ fun d'' γ => .nx (((ρ.set i (some d)).set j (some d')).set l (some (.mine d''))) γ
theorem ds_par3N {i j l : Nat} {x y z : Str} {a b c : Expr} {fa fb fc : ESem} {px py pz pt pt2 : Pos} {kt k2 : Nat} (hc : X.calm = true) (hN : X.N.Nodup) (hi : X.N[i]? = some x) (hj : X.N[j]? = some y) (hl : X.N[l]? = some z) (hij : i ≠ j) (hil : i ≠ l) (hjl : j ≠ l)
    (hx : X.env.scope.names.lookup x = some .local) (hy : X.env.scope.names.lookup y = some .local) (hz : X.env.scope.names.lookup z = some .local) (ha : PE X a (tE B W fa)) (hb : PE X b (tE B W fb)) (hcc : PE X c (tF B W fc))
    (hw : swappedStores [.Tuple [.Name x px, .Name y py, .Name z pz] kt pt] (.Tuple [a, b, c] k2 pt2) X.env = pure (some [x, y, z]) := by rfl) (hs : swapsWithSole [.Tuple [.Name x px, .Name y py, .Name z pz] kt pt] (.Tuple [a, b, c] k2 pt2) pos.line X.env = pure false := by rfl)
    (h1 : starEach [a, b, c] X.env = (false, eval a X.env) :: starEach [b, c] X.env := by rfl) (h2 : starEach [b, c] X.env = (false, eval b X.env) :: starEach [c] X.env := by rfl) (h3 : starEach [c] X.env = (false, eval c X.env) :: starEach [] X.env := by rfl) :
    PS X (.Assign [.Tuple [.Name x px, .Name y py, .Name z pz] kt pt] (.Tuple [a, b, c] k2 pt2) pos) (tS B W (sPar3N i j l fa fb fc)) := PS.imp (ps_par3 (i := i) (j := j) (l := l) hc hN hi hj hl hij hil hjl hx hy hz (pa_cons ha (pa_cons hb (pa_cons hcc pa_nil h3) h2) h1) hw hs) fun E σ H ⟨F, φ, ρ, γ, R, P⟩ => by
  refine run1S R P fun d γ1 v F1 φ1 H1 x1 R1 d1 P1 => ?_
  refine run1S R1 P1 fun d' γ2 v' F2 φ2 H2 x2 R2 d2 P2 => ?_
  refine run1S R2 P2 fun d'' γ3 v'' F3 φ3 H3 x3 R3 d3 P3 => ?_
  obtain ⟨a, rfl, al, ow, nj, _⟩ := d3
  have R4 := R3.setMine al ow nj l
  have R5 := R4.set (Den.same x3.f x3.p _ _ (Den.same x2.f x2.p _ _ d1)) i
  have R6 := R5.set (Den.same x3.f x3.p _ _ d2) j
  rw [List.set_comm _ _ (Ne.symm hil), List.set_comm (some (V.ref a)) (some v) (Ne.symm hil), List.set_comm _ _ (Ne.symm hjl), List.set_comm (some (V.ref a)) (some v') (Ne.symm hjl)] at R6
  exact ⟨v, v', _, rfl, P3 _ F3 φ3 H3 (same_refl _) (List.prefix_refl _) R6⟩
end
end DL

/-! DLD: tuples that are keys read as plain tuples; sorted, list of them -/
namespace DL
open PySem PySem.Spec PyProof.Rows L2
mutual
def toD : NestedKey → D
  | .none => .non
  | .num i => .int i
  | .text x => .str x
  | .tup ks => .tup (toDs ks)
def toDs : List NestedKey → List D
  | [] => []
  | k :: ks => toD k :: toDs ks
end
mutual
theorem toD_den {C : Ct} {φ : List Addr} {F : Hp} : ∀ (k : NestedKey) (v : V), NDen C.K F k v → Den C φ F (toD k) v
  | .none, v, h => by rw [NDen] at h; rw [toD, Den]; exact h
  | .num i, v, h => by rw [NDen] at h; rw [toD, Den]; exact h
  | .text x, v, h => by rw [NDen] at h; rw [toD, Den]; exact h
  | .tup ks, v, h => by
    rw [NDen] at h
    obtain ⟨a, vs, rfl, ⟨o, h1, _⟩, h2⟩ := h
    rw [toD, Den]
    exact ⟨a, vs, rfl, .inl (.inr ⟨o, h1⟩), toDs_den ks vs h2⟩
theorem toDs_den {C : Ct} {φ : List Addr} {F : Hp} : ∀ (ks : List NestedKey) (vs : List V), NDens C.K F ks vs → Dens C φ F (toDs ks) vs
  | [], vs, h => by rw [NDens] at h; rw [toDs, Dens]; exact h
  | k :: ks, vs, h => by
    rw [NDens] at h
    obtain ⟨v, r, rfl, h1, h2⟩ := h
    rw [toDs]
    exact .cons (toD_den k v h1) (toDs_den ks r h2)
end
def unK : D → D
  | .nk k => toD k
  | d => d
theorem unK_den {C : Ct} {φ : List Addr} {F : Hp} {d : D} {v : V} (h : Den C φ F d v) : Den C φ F (unK d) v := by
  cases d with
  | nk k => rw [Den] at h; exact toD_den k v h
  | _ => exact h
/-! ### an insertion sort by any order -/
section
variable {α : Type} (le : α → α → Bool)
def insL (x : α) : List α → List α
  | [] => [x]
  | y :: ys => if le x y = true then x :: y :: ys else y :: insL x ys
def sortL : List α → List α
  | [] => []
  | x :: xs => insL le x (sortL xs)
variable {le}
theorem insL_filter (t : PySem.W.TotalLe le) (c x : α) : ∀ ys : List α, (insL le x ys).filter (PySem.W.sameRank le c) = (x :: ys).filter (PySem.W.sameRank le c)
  | [] => rfl
  | y :: ys => by
    rw [insL]
    by_cases h : le x y = true
    · rw [if_pos h]
    · rw [if_neg h, List.filter_cons, insL_filter t c x ys, List.filter_cons, List.filter_cons, List.filter_cons]
      cases hx : PySem.W.sameRank le c x with
      | false => simp [hx]
      | true =>
        cases hy : PySem.W.sameRank le c y with
        | false => simp [hx, hy]
        | true =>
          exfalso
          unfold PySem.W.sameRank at hx hy
          rw [Bool.and_eq_true] at hx hy
          exact h (t.trans x c y hx.2 hy.1)
theorem insL_mem {x z : α} : ∀ {ys : List α}, z ∈ insL le x ys → z = x ∨ z ∈ ys
  | [], h => by rw [insL] at h; exact .inl (by simpa using h)
  | y :: ys, h => by
    rw [insL] at h
    split at h
    · exact (List.mem_cons.mp h).elim .inl .inr
    · rcases List.mem_cons.mp h with h | h
      · exact .inr (by simp [h])
      · rcases insL_mem h with h | h
        · exact .inl h
        · exact .inr (by simp [h])
theorem insL_sorted (t : PySem.W.TotalLe le) {x : α} : ∀ {ys : List α}, ys.Pairwise (fun a b => le a b = true) → (insL le x ys).Pairwise (fun a b => le a b = true)
  | [], h => by rw [insL]; simp
  | y :: ys, h => by
    rw [insL]
    rw [List.pairwise_cons] at h
    split
    · rename_i hx
      rw [List.pairwise_cons, List.pairwise_cons]
      refine ⟨fun z hz => ?_, h⟩
      rcases List.mem_cons.mp hz with rfl | hz
      · exact hx
      · exact t.trans x y z hx (h.1 z hz)
    · rename_i hx
      rw [List.pairwise_cons]
      refine ⟨fun z hz => ?_, insL_sorted t h.2⟩
      rcases insL_mem hz with rfl | hz
      · rcases t.total z y with q | q
        · exact absurd q hx
        · exact q
      · exact h.1 z hz
theorem sortL_filter (t : PySem.W.TotalLe le) (c : α) : ∀ xs : List α, (sortL le xs).filter (PySem.W.sameRank le c) = xs.filter (PySem.W.sameRank le c)
  | [] => rfl
  | x :: xs => by rw [sortL, insL_filter t, List.filter_cons, List.filter_cons, sortL_filter t c xs]
theorem sortL_sorted (t : PySem.W.TotalLe le) : ∀ xs : List α, (sortL le xs).Pairwise (fun a b => le a b = true)
  | [] => List.Pairwise.nil
  | x :: xs => insL_sorted t (sortL_sorted t xs)
end
def leK (x y : D) : Bool := PySem.W.dataLe false (fun d => D.py (unK d)) x y
theorem leK_total : PySem.W.TotalLe leK := PySem.W.sortLe_total _ false _
theorem sortK_eq (xs : List D) : xs.mergeSort (PySem.W.dataLe false fun d => D.py (unK d)) = sortL leK xs := (PySem.W.sort_unique leK_total (sortL_sorted leK_total xs) fun c => sortL_filter leK_total c xs).symm
def D.nkTup : D → Bool
  | .nk (.tup (_ :: _)) => true
  | _ => false
def dSortK : List D → Option D
  | [.lst ds] => if (D.plains 50 (ds.map unK) && (ds.all fun a => ds.all fun b => PySem.W.alike (unK a).py (unK b).py) && ds.all D.nkTup && decide (ds.length ≤ 1000000)) = true then some (.lst (sortL leK ds)) else none
  | _ => none
section
variable {X : Cx} {B : Fx} {W : WX} {F H : Hp} {φ : List Addr} {ρ : Env} {γ : List D} {σ : St}
def rSortK (B : Fx) : List V → Hp → VK → Prop := fun xs H Q => ∃ F φ a ys ds, xs = [.ref a] ∧ Same F H ∧ SqL B.C.K H a ys ∧ Dens B.C φ F ds ys ∧ D.plains 50 (ds.map unK) = true ∧ (ds.all fun a => ds.all fun b => PySem.W.alike (unK a).py (unK b).py) = true ∧ ds.all D.nkTup = true ∧ ds.length ≤ 1000000 ∧ ∀ zs p, Dens B.C φ F (sortL leK ds) zs → H p = none → Q (.ref p) (upd H p (.lst zs))
theorem each_readsK {pins : List (Addr × Obj)} {s : Shared} (hK : X.K = B.C.K) (I : Inv X pins σ H s) (sm : Same F H) : ∀ {ds : List D} {us : List Value}, (∀ d ∈ ds, D.plain 50 (unK d) = true) → PySem.W.EachIs (fun (u : Value) (d : D) => ∃ v, RelV v u ∧ Den B.C φ F d v) us ds → PySem.W.EachIs (fun v b => ∃ as, Reads s.heap v (D.py (unK b)) as) us ds
  | _, _, _, .nil => .nil
  | d :: ds, _, hp, .cons ⟨v, r, h⟩ t => .cons (Dp.reads I (unK d).py v _ (by rw [hK]; exact den_dp sm 50 (unK d) v (hp d (by simp)) (unK_den h)) r) (each_readsK hK I sm (fun d' h' => hp d' (by simp [h'])) t)
theorem call_sortK (hK : X.K = B.C.K) (hu : X.A.units + 64 < cLine) : CallR X (.builtin "sorted") (rSortK B) := by
  intro pins s σ H xs us Q I r h
  obtain ⟨F, φ, a, ys, ds, rfl, sm, hs, hd, hp, hal, hso, hz, q⟩ := h
  obtain ⟨u, rfl, ru⟩ := vals1 r
  obtain rfl : u = Value.ref a := ru
  rw [← hK] at hs
  obtain ⟨its, rv, pl, _⟩ := I.list hs
  have he := each_den hd rv
  have hpl : ∀ d ∈ ds, D.plain 50 (unK d) = true := fun d hd => plains_mem hp (unK d) (List.mem_map.mpr ⟨d, hd, rfl⟩)
  refine PySem.W.sorted_data (enc := fun d => D.py (unK d)) (bs := ds) pl.isList he (each_readsK hK I sm hpl he) ?_ ?_ (Nat.le_trans hz SZ) (fun b hb => ?_) fun out hl ho => ?_
  · intro d hd d' hd'
    obtain ⟨x, hx, rfl⟩ := List.mem_map.mp hd
    obtain ⟨y, hy, rfl⟩ := List.mem_map.mp hd'
    exact List.all_eq_true.mp (List.all_eq_true.mp hal x hx) y hy
  · refine .inl fun d hd => ?_
    obtain ⟨x, hx, rfl⟩ := List.mem_map.mp hd
    have := List.all_eq_true.mp hso x hx
    unfold D.nkTup at this
    split at this
    · rw [unK, toD, toDs, D.py, D.pys]; exact ⟨_, _, rfl⟩
    · cases this
  · have := (plain_shape 50 (unK b) (hpl b hb)).2
    omega
  · rw [sortK_eq] at ho
    obtain ⟨zs, r2, h2⟩ := den_each ho
    obtain ⟨ep, he'⟩ := PyProof.Rows.sortedAll_at s.heap its out.toArray
    exact ⟨.ref _, upd H (s.heap.objs.size + 1) (.lst zs), I.laid (t' := s.toks) (fun _ _ => PyProof.Rows.sortedAll_old) (Nat.le_succ _) ⟨by rw [r2.length, hl]; exact Nat.le_trans hz SZ, out, ep, r2, he'⟩, rfl, q zs _ h2 (I.hok.fresh (Nat.le_succ _))⟩
theorem cd_sortK : CallD B (rSortK B) dSortK := by
  intro F φ H ρ γ σ ds d vs Q R p e G
  match ds, e with
  | [.lst es], e =>
    simp only [dSortK] at e
    split at e
    · rename_i hc
      cases e
      rw [Bool.and_eq_true, Bool.and_eq_true, Bool.and_eq_true] at hc
      obtain ⟨v, rfl, h⟩ := p.one
      obtain ⟨l, us, rfl, h1, h2⟩ := Pk.lst R h
      exact ⟨F, φ, l, us, es, rfl, R.c.sub, .inl (.inl h1), h2, hc.1.1.1, hc.1.1.2, hc.1.2, of_decide_eq_true hc.2, fun zs p hz hp => G.lst R hz hp⟩
    · cases e
end
end DL

/-! DLE: tuple(range(a, b)) as a key; list of a key; try with a guard -/
namespace DL
open PySem PySem.Spec PyProof.Rows L2
section
variable {X : Cx} {B : Fx} {W : WX} {e a b : Expr} {fa fb : ESem} {F H : Hp} {φ : List Addr} {ρ : Env} {γ : List D} {σ : St}
def tRgK (te : St → Hp → (Int → Int → Hp → Prop) → Prop) : TE := fun σ H Q => te σ H fun lo hi H1 => RgOk lo hi ∧ ∀ p ob, Obj.dict ob = none → H1 p = none → Q (.ref p) (upd H1 p (.frz ob (.tup (rgV lo hi))))
theorem pe_rgK {te : St → Hp → (Int → Int → Hp → Prop) → Prop} {p pos : Pos} (calm : X.calm = true) (gl : Gl X "tuple") (own : X.mg "tuple" = none) (rg : PRg X e te) (st : starEach [e] X.env = (false, eval e X.env) :: starEach [] X.env := by rfl) : PE X (.Call (.Name "tuple" p) [e] [] pos) (tRgK te) := by
  refine ⟨fun pn s0 σ H0 Q0 J hq => ?_⟩
  refine Call_ (ld_blt J gl own boot_tuple (PyProof.Rows.callWith_type1 (args_cons (thn (rg pn s0 σ H0 _ J hq) ?_) st) st))
  rintro x0 t1 ⟨r0, lo, hi, k1, k2, k3, G, rfl, isr, J1, ok, fin⟩
  refine args_nil ?_
  refine call_tuple_range (n := (hi - lo).toNat) (J1.ok.hd calm) isr (small_one ok.1 ok.2.1 ok.2.2.1 ok.2.2.2.1) (rangeSize_nat lo hi) ok.2.2.2.2 fun hp tk ar keep its => ?_
  have J2 := J1.kept (t' := tk) keep
  have hz : (rgV lo hi).length ≤ sizeLine := by
    have := ok.2.2.2.2
    rw [rgV_length, sizeLine_eq]
    omega
  have hob : ObjOk X.prog X.w (upd G hp.objs.size (.frz { cls := .type "tuple", data := .seq ar } (.tup (rgV lo hi)))) (hp.push { cls := .type "tuple", data := .seq ar }) hp.objs.size (.frz { cls := .type "tuple", data := .seq ar } (.tup (rgV lo hi))) := by
    refine ⟨Heap.get?_push_size _ rfl, hz, ar.toList, vals_rg its, ?_⟩
    rw [Array.toArray_toList]
    exact IsTup.new _ _
  exact ⟨.ref hp.objs.size, _, J2.laid (t' := tk) (fun c o q => Heap.get?_push_of_some _ q) (Nat.le_refl _) hob, rfl, fin _ _ rfl (J2.hok.fresh (Nat.le_refl _))⟩
def rgK (lo hi : Int) : List NestedKey := (List.range (hi - lo).toNat).map fun i => .num (lo + (i : Nat))
theorem rgK_den {K : PySem.W.Frag} (F : Hp) (lo : Int) : ∀ l : List Nat, NDens K F (l.map fun i => .num (lo + (i : Nat))) (l.map fun i => V.int (lo + (i : Nat)))
  | [] => by rw [List.map_nil, List.map_nil, NDens]
  | x :: l => by
    rw [List.map_cons, List.map_cons, NDens]
    exact ⟨_, _, rfl, by rw [NDen], rgK_den F lo l⟩
def eRgK (fa fb : ESem) : ESem := fun ρ γ => (fa ρ γ).bind fun x γ => (fb ρ γ).bind fun y γ => match x, y with
  | .int lo, .int hi => if (0 ≤ lo ∧ lo ≤ 1000) ∧ 0 ≤ hi ∧ hi ≤ 1000 then .ok (.nk (.tup (rgK lo hi))) γ else .stuck
  | _, _ => .stuck
theorem de_rgK {p p' pos pos' : Pos} (calm : X.calm = true) (gl : Gl X "tuple") (own : X.mg "tuple" = none) (gr : Gl X "range") (orr : X.mg "range" = none) (ha : PE X a (tE B W fa)) (hb : PE X b (tE B W fb))
    (na : starEach [a, b] X.env = (false, eval a X.env) :: starEach [b] X.env := by rfl) (nb : starEach [b] X.env = (false, eval b X.env) :: starEach [] X.env := by rfl) (hp : (backTo pos' (starEach [b] X.env)).any (·.1) = false := by rfl)
    (st : starEach [.Call (.Name "range" p') [a, b] [] pos'] X.env = (false, eval (.Call (.Name "range" p') [a, b] [] pos') X.env) :: starEach [] X.env := by rfl) :
    PE X (.Call (.Name "tuple" p) [.Call (.Name "range" p') [a, b] [] pos'] [] pos) (tE B W (eRgK fa fb)) := PE.imp (pe_rgK calm gl own (prg_2 gr orr ha hb na nb hp) st) fun σ H Q ⟨F, φ, ρ, γ, R, P⟩ => by
  refine run1 R P fun x γ1 u F1 φ1 H1 x1 R1 d1 P1 => ?_
  refine run1 R1 P1 fun y γ2 w F2 φ2 H2 x2 R2 d2 P2 => ?_
  have d1 : Den B.C φ1 F1 x u := d1
  have d2 : Den B.C φ2 F2 y w := d2
  cases x with
  | int lo =>
    cases y with
    | int hi =>
      simp only at P2
      by_cases hc : (0 ≤ lo ∧ lo ≤ 1000) ∧ 0 ≤ hi ∧ hi ≤ 1000
      · rw [if_pos hc] at P2
        rw [Den] at d1 d2
        subst d1 d2
        exact ⟨lo, hi, rfl, rfl, RgOk.of_le hc.1.1 (by omega) (by omega) hc.2.1, fun p ob ho hp => Gv.nk P2 R2 ho (rgK_den F2 lo _) hp⟩
      · rw [if_neg hc] at P2; exact P2.elim
    | _ => exact P2.elim
  | _ => exact P2.elim
/-! ### list(k), k a key -/
def dLstN : List D → Option D
  | [.nk (.tup ks)] => some (.lst (ofKeys ks))
  | _ => none
theorem nk_sq {C : Ct} {ks : List NestedKey} {v : V} (h : NDen C.K F (.tup ks) v) : ∃ a vs, v = .ref a ∧ SqT C.K F a vs ∧ NDens C.K F ks vs := by
  rw [NDen] at h
  obtain ⟨a, vs, rfl, ⟨o, h1, _⟩, h2⟩ := h
  exact ⟨a, vs, rfl, .inl (.inr ⟨o, h1⟩), h2⟩
theorem cd_listN (hK : X.K = B.C.K) : CallD B (fun xs H Q => ∃ p ys, xs = [.ref p] ∧ (SqL X.K H p ys ∨ SqT X.K H p ys) ∧ ∀ l, H l = none → Q (.ref l) (upd H l (.lst ys))) dLstN := by
  intro F φ H ρ γ σ ds d vs Q R p e G
  rw [hK]
  match ds, e with
  | [.nk (.tup ks)], e =>
    cases e
    obtain ⟨v, rfl, h⟩ := p.one
    rcases h with h | ⟨j, ej, h⟩
    · rw [Den] at h
      obtain ⟨l, us, rfl, h1, h2⟩ := nk_sq h
      exact ⟨l, us, rfl, .inr (sqT_same R.c.sub h1), fun p hp => G.lst R (ofKeys_den ks us h2) hp⟩
    · rcases R.fz j _ ej with ⟨u, _, q⟩ | ⟨d', a, q, _, _, ow⟩
      · rw [Den] at q; exact q.elim
      · cases q
        exact ow.elim
/-! ### try with a guard -/
def sTryO (ok m : Nat → Bool) (f g : SSem) : SSem := fun ρ γ => match f ρ γ with
  | .err c ρ' γ' => if ok c = true then (if m c = true then g ρ' γ' else .err c ρ' γ') else .stuck
  | o => o
theorem ds_tryO {x : Str} {c : Value} {np pos pos' : Pos} {b0 : Stmt} {suite body : List Stmt} {fb fg : SSem} {ok mt : Nat → Bool} (hs : X.stack = X.env :: X.outer) (hf : X.env.frame = some X.env.locals) (hc : Names X x c) (tk : L2N.Takes X W)
    (hm : ∀ k, ok k = true → PySem.W.exmOne X.K (.ref (B.C.exc k)) c = some (mt k))
    (hb : ∀ (W : WX) (pn : List (Addr × Obj)) (xe : Value → Shared → Prop), L2N.Takes (X.tr pn xe) W → PassesOwn (model X.prog X.w) X.A X.env xe → PSs (X.tr pn xe) body (tS B W fb))
    (hsu : ∀ (a : Addr) (oe : Obj) (pn : List (Addr × Obj)), PSs (X.suite a ((a, oe) :: pn)) (b0 :: suite) (tS B W fg)) :
    PS X (.Try body [.ExceptHandler (some (.Name x np)) none (b0 :: suite) pos'] [] [] pos) (tS B W (sTryO ok mt fb fg)) :=
  PS.imp (L2N.ps_try_many (tb := fun W => tS B W fb) (l := [(c, fun _ _ _ => tS B W fg)]) hs hf tk hb (.cons hc (fun a oe _ _ pn _ _ => hsu a oe pn) .nil)) fun E σ H ⟨F, φ, ρ, γ, R, P⟩ => by
    refine ⟨F, φ, ρ, γ, R, ?_⟩
    unfold sTryO at P
    cases q : fb ρ γ with
    | nx ρ1 γ1 => rw [q] at P; exact P
    | rt d γ1 => rw [q] at P; exact P
    | bk ρ1 γ1 => rw [q] at P; exact P
    | ct ρ1 γ1 => rw [q] at P; exact P
    | stuck => rw [q] at P; exact P
    | err k ρ1 γ1 =>
      rw [q] at P
      simp only at P
      by_cases ho : ok k = true
      · rw [if_pos ho] at P
        intro σ' F' φ' H' s p R'
        refine ⟨mt k, hm k ho, fun hy a _ => ?_, fun hn => ?_⟩
        · rw [if_pos hy] at P
          exact ⟨F', φ', ρ1, γ1, R', SPost.up (o := fg ρ1 γ1) s p P⟩
        · rw [if_neg (by rw [hn]; exact Bool.false_ne_true)] at P
          exact P σ' F' φ' H' s p R'
      · rw [if_neg ho] at P
        exact P.elim
def tryB (K : PySem.W.Frag) (exc : Nat → Addr) (ns : List Nat) (c : Nat) : Bool := ns.all fun n => decide (PySem.W.exmOne K (.ref (exc n)) (.ref (exc c)) = some (decide (n = c)))
theorem tryB_ok {K : PySem.W.Frag} {exc : Nat → Addr} {ns : List Nat} {c : Nat} (h : tryB K exc ns c = true) : ∀ n ∈ ns, PySem.W.exmOne K (.ref (exc n)) (.ref (exc c)) = some (decide (n = c)) := fun n hn => of_decide_eq_true (List.all_eq_true.mp h n hn)
/-! ### x is not None, keys too -/
def bNonK : D → Option Bool
  | .nk (.tup _) => some false
  | .ins _ _ => some false
  | d => bNon d
theorem den_nonK {C : Ct} {d : D} {v : V} {k : Bool} (h : Den C φ F d v) (q : bNonK d = some k) : decide (v = .non) = k := by
  unfold bNonK at q
  split at q
  · cases q
    rw [Den] at h
    obtain ⟨l, us, rfl, _⟩ := nk_sq h
    rfl
  · cases q
    rw [Den] at h
    obtain ⟨l, dx, us, rfl, _⟩ := h
    rfl
  · exact den_non h q
def cNotNK (f : ESem) : CSem := fun ρ γ => (f ρ γ).bind fun x γ => ofOpt ((bNonK x).map not) γ
theorem dt_notNK {j : Nat} {p2 pos : Pos} (ha : PE X a (tE B W fa)) : PT X (.Compare a [.IsNot] [.Constant .none j p2] pos) (tT B W (cNotNK fa)) := PT.imp (pt_cmp (pc_notN ha) rfl) fun σ H Q ⟨F, φ, ρ, γ, R, P⟩ => by
  refine run1 R P fun x γ1 u F1 φ1 H1 x1 R1 d1 P1 => ?_
  cases e : bNonK x with
  | none => rw [e] at P1; exact P1.elim
  | some k => rw [e] at P1; exact ⟨!k, by rw [den_nonK d1 e], P1 _ F1 φ1 H1 (Ext.refl _ _ _) R1 rfl⟩
end
end DL

/-! DLG: instances that change, as cells -/
namespace DL
open PySem PySem.Spec PyProof.Rows L2
section
variable {X : Cx} {B : Fx} {W : WX} {o e : Expr} {fo fv : ESem} {m : Str} {pos pos' : Pos} {F H : Hp} {φ : List Addr} {ρ : Env} {γ : List D} {σ : St}
theorem cell_ins {n c : Nat} {v : V} {ds : List D} (R : Rel B F φ H ρ γ σ) (h : Den B.C φ F (.cell n) v) (q : γ[n]? = some (.ins c ds)) : ∃ l dx vs, v = .ref l ∧ φ[n]? = some l ∧ H l = some (.ins (B.C.cls c) dx ((B.C.fld c).zip vs)) ∧ vs.length ≤ (B.C.fld c).length ∧ Dens B.C φ F ds vs := by
  rw [Den] at h
  obtain ⟨l, e1, rfl⟩ := h
  obtain ⟨dx, vs, h1, h2, h3⟩ := R.c.cell n _ l q e1
  exact ⟨l, dx, vs, rfl, e1, h1, h2, h3⟩
def eFldC (c i : Nat) (f : ESem) : ESem := fun ρ γ => (f ρ γ).bind fun x γ => match x with
  | .cell n => (match γ[n]? with
    | some (.ins c' ds) => if c' = c then ofOpt ds[i]? γ else .stuck
    | _ => .stuck)
  | _ => .stuck
theorem de_fldC {c i : Nat} (he : PE X o (tE B W fo)) (cl : Cls X.K (B.C.cls c)) (na : NoAttr X.K (B.C.cls c) m) (hi : ixS m (B.C.fld c) = some i) (hb : attributeBase o m X.env (eval o X.env) = eval o X.env := by rfl) : PE X (.Attribute o m pos) (tE B W (eFldC c i fo)) :=
  PE.imp (pe_fld he hb) fun σ H Q ⟨F, φ, ρ, γ, R, P⟩ => by
    refine run1 R P fun d γ1 v F1 φ1 H1 x1 R1 d1 P1 => ?_
    cases d with
    | cell n =>
      simp only at P1
      cases eg : γ1[n]? with
      | none => rw [eg] at P1; exact P1.elim
      | some dd =>
        rw [eg] at P1
        cases dd with
        | ins c' ds =>
          simp only at P1
          by_cases hc : c' = c
          · subst hc
            rw [if_pos rfl] at P1
            obtain ⟨l, dx, vs, rfl, h1, h2, h3, h4⟩ := cell_ins R1 d1 eg
            cases q : ds[i]? with
            | none => rw [q] at P1; exact P1.elim
            | some d =>
              rw [q] at P1
              obtain ⟨v, h5, h6⟩ := h4.at q
              exact ⟨l, _, dx, _, v, rfl, h2, cl, na, zip_lookup hi h5, P1 v F1 φ1 H1 (Ext.refl _ _ _) R1 h6⟩
          · rw [if_neg hc] at P1; exact P1.elim
        | _ => exact P1.elim
    | _ => exact P1.elim
theorem putF_zip {f : Str} {y : V} : ∀ {l : List Str} {vs : List V} {i : Nat}, ixS f l = some i → i < vs.length → putF f y (l.zip vs) = l.zip (vs.set i y)
  | [], _, _, q, _ => by cases q
  | x :: l, [], _, _, h => by simp at h
  | x :: l, u :: vs, i, q, h => by
    rw [ixS] at q
    rw [List.zip_cons_cons, putF]
    by_cases hf : f = x
    · rw [if_pos hf] at q
      cases q
      rw [if_pos hf.symm, List.set_cons_zero, List.zip_cons_cons]
    · rw [if_neg hf] at q
      rw [if_neg (fun z => hf z.symm)]
      cases q2 : ixS f l with
      | none => rw [q2] at q; cases q
      | some j =>
        rw [q2] at q
        cases q
        rw [List.set_cons_succ, List.zip_cons_cons, putF_zip q2 (by simpa using h)]
theorem putF_end {f : Str} {y : V} : ∀ {l : List Str} {vs : List V}, ixS f l = some vs.length → putF f y (l.zip vs) = l.zip (vs ++ [y])
  | [], _, q => by cases q
  | x :: l, [], q => by
    rw [ixS] at q
    by_cases hf : f = x
    · subst hf
      simp [putF]
    · rw [if_neg hf] at q
      cases q2 : ixS f l with
      | none => rw [q2] at q; cases q
      | some j => rw [q2] at q; simp at q
  | x :: l, u :: vs, q => by
    rw [ixS] at q
    by_cases hf : f = x
    · rw [if_pos hf] at q
      simp at q
    · rw [if_neg hf] at q
      cases q2 : ixS f l with
      | none => rw [q2] at q; cases q
      | some j =>
        rw [q2] at q
        have hj : j = vs.length := by simpa using q
        rw [List.zip_cons_cons, putF, if_neg (fun z => hf z.symm), putF_end (by rw [q2, hj]), List.cons_append, List.zip_cons_cons]
theorem ixS_lt {f : Str} : ∀ {l : List Str} {i : Nat}, ixS f l = some i → i < l.length
  | [], _, q => by cases q
  | x :: l, i, q => by
    rw [ixS] at q
    by_cases hf : f = x
    · rw [if_pos hf] at q
      cases q
      simp
    · rw [if_neg hf] at q
      cases q2 : ixS f l with
      | none => rw [q2] at q; cases q
      | some j =>
        rw [q2] at q
        cases q
        have := ixS_lt q2
        simp
        exact this
def sFldC (c i : Nat) (fo fv : ESem) : SSem := fun ρ γ => toOut (fv ρ γ) ρ fun v γ => toOut (fo ρ γ) ρ fun x γ => match x with
  | .cell n => (match γ[n]? with
    | some (.ins c' ds) => if c' = c then (if i < ds.length then .nx ρ (γ.set n (.ins c (ds.set i v))) else if i = ds.length then .nx ρ (γ.set n (.ins c (ds ++ [v]))) else .stuck) else .stuck
    | _ => .stuck)
  | _ => .stuck
theorem ds_fldC {c i : Nat} (ho : PE X o (tE B W fo)) (hv : PE X e (tE B W fv)) (cl : Cls X.K (B.C.cls c)) (na : NoAttr X.K (B.C.cls c) m) (hi : ixS m (B.C.fld c) = some i) (hl : (B.C.fld c).length < 1000)
    (hs : swapsWith e (some (.Attribute o m pos')) pos.line X.env = pure false := by rfl) : PS X (.Assign [.Attribute o m pos'] e pos) (tS B W (sFldC c i fo fv)) := PS.imp (ps_fld ho hv hs) fun E σ H ⟨F, φ, ρ, γ, R, P⟩ => by
  refine run1S R P fun v γ1 u F1 φ1 H1 x1 R1 d1 P1 => ?_
  refine run1S R1 P1 fun x γ2 y F2 φ2 H2 x2 R2 d2 P2 => ?_
  cases x with
  | cell n =>
    dsimp only at P2
    cases eg : γ2[n]? with
    | none => rw [eg] at P2; exact P2.elim
    | some dd =>
      rw [eg] at P2
      cases dd with
      | ins c' ds =>
        dsimp only at P2
        by_cases hc : c' = c
        · subst hc
          rw [if_pos rfl] at P2
          obtain ⟨l, dx, vs, rfl, h1, h2, h3, h4⟩ := cell_ins R2 d2 eg
          have d1' : Den B.C φ2 F2 v u := Den.same x2.f x2.p _ _ d1
          have hlen := h4.len
          refine ⟨l, _, dx, _, rfl, h2, cl, na, by rw [List.length_zip]; omega, ?_⟩
          by_cases hlt : i < ds.length
          · rw [if_pos hlt] at P2
            obtain ⟨x4, R4⟩ := R2.setCell (d := .ins c' (ds.set i v)) (u := .ins (B.C.cls c') dx ((B.C.fld c').zip (vs.set i u))) h1 ⟨dx, _, upd_same, by rw [List.length_set]; exact h3, h4.set d1' i⟩
            rw [putF_zip hi (by omega)]
            exact P2 σ F2 φ2 _ (same_refl _) (List.prefix_refl _) R4
          · rw [if_neg hlt] at P2
            by_cases heq : i = ds.length
            · rw [if_pos heq] at P2
              have hi' := ixS_lt hi
              obtain ⟨x4, R4⟩ := R2.setCell (d := .ins c' (ds ++ [v])) (u := .ins (B.C.cls c') dx ((B.C.fld c').zip (vs ++ [u]))) h1 ⟨dx, _, upd_same, by rw [List.length_append]; simp; omega, h4.app (.one d1')⟩
              rw [putF_end (by rw [hi, heq, hlen])]
              exact P2 σ F2 φ2 _ (same_refl _) (List.prefix_refl _) R4
            · rw [if_neg heq] at P2; exact P2.elim
        · rw [if_neg hc] at P2; exact P2.elim
      | _ => exact P2.elim
  | _ => exact P2.elim
end
/-! ### a method of a cell -/
theorem zip_none {m : Str} : ∀ (l1 : List Str) (l2 : List V), m ∉ l1 → (l1.zip l2).lookup m = none
  | [], _, _ => rfl
  | y :: l1, [], _ => rfl
  | y :: l1, z :: l2, hn => by
    rw [List.mem_cons, not_or] at hn
    rw [List.zip_cons_cons, List.lookup_cons, beq_eq_false_iff_ne.mpr hn.1]
    exact zip_none l1 l2 hn.2
def isCls (c : Nat) (γ : List D) (n : Nat) : Bool := match γ[n]? with
  | some (.ins c' _) => decide (c' = c)
  | _ => false
theorem isCls_ok {B : Fx} {F H : Hp} {φ : List Addr} {ρ : Env} {γ : List D} {σ : St} {c n : Nat} {v : V} (R : Rel B F φ H ρ γ σ) (h : Den B.C φ F (.cell n) v) (q : isCls c γ n = true) : ∃ l dx vs, v = .ref l ∧ H l = some (.ins (B.C.cls c) dx ((B.C.fld c).zip vs)) := by
  unfold isCls at q
  split at q
  · rename_i c' ds e
    have := of_decide_eq_true q
    subst this
    obtain ⟨l, dx, vs, h1, _, h2, _⟩ := cell_ins R h e
    exact ⟨l, dx, vs, h1, h2⟩
  · cases q
def eMethC (c n : Nat) (g : List D → List D → Res D) (fo : ESem) (fs : LSem) : ESem := fun ρ γ => (fo ρ γ).bind fun d γ => match d with
  | .cell j => if isCls c γ j = true then (fs ρ γ).bind fun ds γ => if (d :: ds).length = n then g (d :: ds) γ else .stuck else .stuck
  | _ => .stuck
def eMethC0 (c n : Nat) (g : List D → List D → Res D) (fo : ESem) : ESem := fun ρ γ => (fo ρ γ).bind fun d γ => match d with
  | .cell j => if isCls c γ j = true then (if [d].length = n then g [d] γ else .stuck) else .stuck
  | _ => .stuck
section
variable {X : Cx} {B : Fx} {W : WX} {o e : Expr} {es : List Expr} {fo : ESem} {fs : LSem} {m : Str} {apos pos : Pos} {f : Addr} {k n c : Nat} {g : List D → List D → Res D} {pl : Sem Bool}
theorem de_callMC (L : Lk X B) (he : PE X o (tE B W fo)) (cl : Cls X.K (B.C.cls c)) (hm : Meth X.K (B.C.cls c) m f) (nf : m ∉ B.C.fld c) (O : Ok B.C X.mg X.base k n f g) (hr : Room k X.A) (tk : L2N.Takes X W) (ha : PA X (e :: es) (tA B W fs))
    (hst : starEach (e :: es) X.env = (false, eval e X.env) :: starEach es X.env := by rfl) (hpl : (backTo pos (starEach es X.env)).any (·.1) = false := by rfl)
    (ht : eval (.Call (.Attribute o m apos) (e :: es) [] pos) X.env = (do
      let ov ← eval o X.env
      standAt apos.atName
      let (f, first) ← holding [ov] (getMethod ov m pl)
      callWith pos f first (backTo pos (starEach (e :: es) X.env)) (backToKw pos (keywordEach [] X.env))) := by rfl) :
    PE X (.Call (.Attribute o m apos) (e :: es) [] pos) (tE B W (eMethC c n g fo fs)) := by
  obtain ⟨fd, ps, Fn, hb⟩ := O.ex
  rw [← L.P, ← L.w, ← L.K] at Fn
  rw [← L.K] at hb
  refine ⟨fun pins s σ H Q I h => ?_⟩
  obtain ⟨F, φ, ρ, γ, R, P⟩ := h
  have h2 : tE B W fo σ H fun x H1 => ∃ a dx vs, x = .ref a ∧ H1 a = some (.ins (B.C.cls c) dx ((B.C.fld c).zip vs)) ∧ tA B W fs σ H1 fun us H2 => spM B.C n g (x :: us) H2 Q (WE W σ) := by
    refine run1 R P fun d γ1 v F1 φ1 H1 x1 R1 d1 P1 => ?_
    cases d with
    | cell j =>
      simp only at P1
      by_cases hc : isCls c γ1 j = true
      · rw [if_pos hc] at P1
        obtain ⟨a, dx, vs, rfl, h1⟩ := isCls_ok R1 d1 hc
        refine ⟨a, dx, vs, rfl, h1, ?_⟩
        refine run1 R1 P1 fun ds γ2 us F2 φ2 H2 x2 R2 d2 P2 => ?_
        exact sp_of R2 (.cons (Den.same x2.f x2.p _ _ d1) d2) P2
      · rw [if_neg hc] at P1; exact P1.elim
    | _ => exact P1.elim
  refine PySem.W.methodCall_KW (pl := pl) (thn (he.run pins s σ H _ I h2) fun u s1 ⟨x, H1, I1, rx, a, dx, fs0, ex, ea, q⟩ => ?_) ht
  subst ex
  obtain rfl : u = Value.ref a := rx
  refine getmeth_ok I1 ea cl hm (zip_none _ _ nf) ?_
  refine PySem.W.callWith_K (first := [.ref a]) (h₀ := X.base) I.ok.mod.kin hm.kp (thn (ha.run pos pins s1 σ H1 _ I1 q) fun us s2 ⟨vs, H2, I2, r, q2⟩ => ⟨I2.kIn, ?_⟩) hst hpl
  exact run_fnS (us := .ref a :: us) (vs := .ref a :: vs) Fn hr hb (E := WE W) (L2N.passAt tk σ) I2 (.cons rfl r) q2
theorem de_callMC0 (L : Lk X B) (he : PE X o (tE B W fo)) (cl : Cls X.K (B.C.cls c)) (hm : Meth X.K (B.C.cls c) m f) (nf : m ∉ B.C.fld c) (O : Ok B.C X.mg X.base k n f g) (hr : Room k X.A) (tk : L2N.Takes X W)
    (ht : eval (.Call (.Attribute o m apos) [] [] pos) X.env = (do
      let ov ← eval o X.env
      standAt apos.atName
      let (f, first) ← holding [ov] (getMethod ov m pl)
      callWith pos f first (backTo pos (starEach [] X.env)) (backToKw pos (keywordEach [] X.env))) := by rfl) :
    PE X (.Call (.Attribute o m apos) [] [] pos) (tE B W (eMethC0 c n g fo)) := by
  obtain ⟨fd, ps, Fn, hb⟩ := O.ex
  rw [← L.P, ← L.w, ← L.K] at Fn
  rw [← L.K] at hb
  refine ⟨fun pins s σ H Q I h => ?_⟩
  obtain ⟨F, φ, ρ, γ, R, P⟩ := h
  have h2 : tE B W fo σ H fun x H1 => ∃ a dx vs, x = .ref a ∧ H1 a = some (.ins (B.C.cls c) dx ((B.C.fld c).zip vs)) ∧ spM B.C n g [x] H1 Q (WE W σ) := by
    refine run1 R P fun d γ1 v F1 φ1 H1 x1 R1 d1 P1 => ?_
    cases d with
    | cell j =>
      simp only at P1
      by_cases hc : isCls c γ1 j = true
      · rw [if_pos hc] at P1
        obtain ⟨a, dx, vs, rfl, h1⟩ := isCls_ok R1 d1 hc
        exact ⟨a, dx, vs, rfl, h1, sp_of R1 (.one d1) P1⟩
      · rw [if_neg hc] at P1; exact P1.elim
    | _ => exact P1.elim
  refine PySem.W.methodCall_KW (pl := pl) (thn (he.run pins s σ H _ I h2) fun u s1 ⟨x, H1, I1, rx, a, dx, fs0, ex, ea, q⟩ => ?_) ht
  subst ex
  obtain rfl : u = Value.ref a := rx
  refine getmeth_ok I1 ea cl hm (zip_none _ _ nf) ?_
  exact PySem.W.callWith_K0 (first := [.ref a]) I1.kIn hm.kp (run_fnS (us := [.ref a]) (vs := [.ref a]) Fn hr hb (E := WE W) (L2N.passAt tk σ) I1 (.cons rfl .nil) q)
end
end DL

/-! DLH: C(a, ..) as a cell, len(x) of a cell, x is not True -/
namespace DL
open PySem PySem.Spec PyProof.Rows L2
section
variable {X : Cx} {B : Fx} {W : WX} {f C a dx : Addr} {fd : FuncData} {ps : List Str} {k n c : Nat} {x : Str} {p pos : Pos} {e o : Expr} {es : List Expr} {fs : LSem} {fo : ESem} {g : List D → List D → Res D} {CX : CXT} {sp : Sp} {E : XK}
  {pins : List (Addr × Obj)} {σ : St} {H : Hp} {s : Shared} {Q : VK} {us : List Value} {vs : List V}
theorem run_mkS (M : Mk X.K C f) (Fn : FnOk X.prog X.w X.K X.mg X.base CX k f fd ps sp) (hr : Room (k + 1) X.A) (hb : Binds X.K fd ps []) (hx : PassesAt CX X σ E) (J : Inv X pins σ H s) (r : Vals vs us)
    (h : ∀ y dx, H y = none → H dx = none → dx ≠ y → sp (.ref y :: vs) (upd (upd H dx (.own y)) y (.ins C dx [])) (fun v H2 => v = .non ∧ Q (.ref y) H2) E) :
    wpAny (model X.prog X.w) X.A (call (.ref C) us) (EP X pins σ Q) X.xe s := by
  have j2 := Inv.made (C := C) J
  have q1 := h (s.heap.objs.size + 1) _ (J.hok.fresh (Nat.le_succ _)) (J.hok.fresh (Nat.le_refl _)) (Nat.ne_of_lt (Nat.lt_succ_self _))
  have v2 : Vals (V.ref (s.heap.objs.size + 1) :: vs) (Value.ref (s.heap.objs.size + 1) :: us) := .cons rfl r
  have l2 : (Value.ref (s.heap.objs.size + 1) :: us).length = ps.length := v2.length.symm.trans (Fn.len _ _ _ _ q1)
  have b2 := hb _ (Value.ref (s.heap.objs.size + 1) :: us) j2.kIn (by rw [List.append_nil]; exact l2)
  rw [List.append_nil] at b2
  have run := Fn.run _ X.stack _ _ ⟨Value.ref (s.heap.objs.size + 1) :: us, []⟩ _ _ _ E (hr.make C us []) (j2.env0.make C us []) b2 v2 q1
  refine wpAny_call (make_map (f := f) J.kIn M.makes M.init (beq_iff_eq.mp M.fn) (codeAny_mono run ?_))
  intro r s' hq
  cases r with
  | error e => exact hx pins _ _ e s' j2 hq
  | ok fl =>
    cases fl with
    | ret u =>
      obtain ⟨v, H', j3, rv, ev, q3⟩ := j2.after hq
      subst ev
      exact ⟨rv, V.ref (s.heap.objs.size + 1), H', j3, rfl, q3⟩
    | _ => exact hq.elim
def nonTo (d : D) (r : Res D) : Res D := r.bind fun x γ => match x with
  | .non => .ok d γ
  | _ => .stuck
def eMakeC (c n : Nat) (g : List D → List D → Res D) (fs : LSem) : ESem := fun ρ γ => (fs ρ γ).bind fun ds γ =>
  nonTo (.cell γ.length) (if (D.cell γ.length :: ds).length = n then g (.cell γ.length :: ds) (γ ++ [.ins c []]) else .stuck)
theorem de_makeC (L : Lk X B) (M : Mk X.K (B.C.cls c) f) (O : Ok B.C X.mg X.base k n f g) (hr : Room (k + 1) X.A) (hm : X.mg x = some (.ref (B.C.cls c))) (tk : L2N.Takes X W) (ha : PA X (e :: es) (tA B W fs))
    (hg : Gl X x := by rfl) (hdb : (x == ("__debug__" : Str)) = false := by decide) (he : starEach (e :: es) X.env = (false, eval e X.env) :: starEach es X.env := by rfl) (hpl : (backTo pos (starEach es X.env)).any (·.1) = false := by rfl) :
    PE X (.Call (.Name x p) (e :: es) [] pos) (tE B W (eMakeC c n g fs)) := by
  obtain ⟨fd, ps, Fn, hb⟩ := O.ex
  rw [← L.P, ← L.w, ← L.K] at Fn
  rw [← L.K] at hb
  refine ⟨fun pins s σ H Q I h => ?_⟩
  obtain ⟨F, φ, ρ, γ, R, P⟩ := h
  have h2 : tA B W fs σ H fun vs H1 => ∀ y dx, H1 y = none → H1 dx = none → dx ≠ y → spM B.C n g (.ref y :: vs) (upd (upd H1 dx (.own y)) y (.ins (B.C.cls c) dx [])) (fun v H2 => v = .non ∧ Q (.ref y) H2) (WE W σ) := by
    refine run1 R P fun ds γ1 vs F1 φ1 H1 x1 R1 d1 P1 => ?_
    intro y dx hy hdx hne
    have d1 : Dens B.C φ1 F1 ds vs := d1
    have R2 := R1.lay (o := .own y) hdx
    have x2 := ext_lay (φ := φ1) (o := .own y) R1.c.sub hdx
    have hy' : upd H1 dx (.own y) y = none := by rw [upd_ne (Ne.symm hne)]; exact hy
    obtain ⟨x3, R3, al, nj⟩ := R2.layH (o := .ins (B.C.cls c) dx []) hy'
    have R4 := R3.toCell (d := .ins c []) al ⟨dx, [], by rw [upd_same]; simp, Nat.zero_le _, by rw [Dens]⟩ nj
    have x5 := x2.trans x3
    have x4 : Ext F1 φ1 H1 (upd F1 dx (.own y)) (φ1 ++ [y]) (upd (upd H1 dx (.own y)) y (.ins (B.C.cls c) dx [])) := ⟨x5.f, x5.p.trans ⟨[y], rfl⟩, x5.k, x5.nF, fun b hb => by
      rcases List.mem_append.mp hb with h | h
      · exact x5.nφ b h
      · rw [List.mem_singleton.mp h]; exact .inr hy, x5.t⟩
    have hcell : (φ1 ++ [y])[γ1.length]? = some y := by rw [R1.c.len]; simp
    have d4 : Dens B.C (φ1 ++ [y]) (upd F1 dx (.own y)) (.cell γ1.length :: ds) (.ref y :: vs) := .cons (by rw [Den]; exact ⟨y, hcell, rfl⟩) (Dens.same x4.f x4.p _ _ d1)
    refine sp_of R4 d4 ?_
    cases q : (if (D.cell γ1.length :: ds).length = n then g (.cell γ1.length :: ds) (γ1 ++ [.ins c []]) else .stuck) with
    | ok d γ' =>
      rw [q] at P1
      intro v F' φ' H' x6 R6 d6
      cases d with
      | non =>
        have d6 : Den B.C φ' F' .non v := d6
        rw [Den] at d6
        refine ⟨d6, P1 (.ref y) F' φ' H' (x4.trans x6) R6 ?_⟩
        show Den _ _ _ _ _
        rw [Den]
        obtain ⟨t, ht⟩ := x6.p
        refine ⟨y, ?_, rfl⟩
        rw [← ht, List.getElem?_append_left (by rw [R1.c.len]; simp)]
        exact hcell
      | _ => exact P1.elim
    | err k γ' =>
      rw [q] at P1
      intro F' φ' H' x6 R6
      exact P1 F' φ' H' (x4.trans x6) R6
    | stuck => rw [q] at P1; exact P1.elim
  refine wpAny_Call_Name_kw (ld_glob I hg hm ?_ hdb)
  exact PySem.W.callWith_K (h₀ := X.base) I.ok.mod.kin M.kp (thn (ha.run pos pins s σ H _ I h2) fun us s1 ⟨vs, H1, I1, r, q⟩ => ⟨I1.kIn, run_mkS M Fn hr hb (L2N.passAt tk σ) I1 r q⟩) he hpl
/-! ### len(x), x a cell of a class with __len__ -/
theorem len_ownK {fl : List (Str × V)} (I : Inv X pins σ H s) (ea : H a = some (.ins C dx fl)) (hm : Meth X.K C "__len__" f) (Fn : FnOk X.prog X.w X.K X.mg X.base CX k f fd ps sp) (hr : Room (k + 1) X.A) (hb : Binds X.K fd ps []) (hx : PassesAt CX X σ E)
    (q : sp [.ref a] H (fun v H2 => ∃ i : Int, v = .int i ∧ 0 ≤ i ∧ i < 2 ^ 63 ∧ Q (.int i) H2) E) : wpAny (model X.prog X.w) X.A (call (.builtin "len") [.ref a]) (EP X pins σ Q) X.xe s := by
  obtain ⟨mA, J, _⟩ := ins_get I.hok ea
  obtain ⟨od, J, _⟩ := J.look
  have lk : PySem.W.Looks (model X.prog X.w) s.heap (specialOf (.ref a) "__len__") (some (.ref f)) := J.type.andThen (PySem.W.looks_findIn I.kIn hm.at_)
  have v2 : Vals [V.ref a] [Value.ref a] := .cons rfl .nil
  have b := hb s [.ref a] I.kIn (by rw [List.append_nil]; exact v2.length.symm.trans (Fn.len _ _ _ _ q))
  rw [List.append_nil] at b
  have hcall : wpAny (model X.prog X.w) X.A.in1 (call (.ref f) [.ref a]) (fun r s' => ∃ (i : Int) (t : _), r = .int i t ∧ 0 ≤ i ∧ i < 2 ^ 63 ∧ EP X pins σ Q (.int i s'.toks) { s' with toks := s'.toks + 1 }) X.xe s := by
    refine wpAny_call (codeAny_mono (Fn.run X.A.in1 X.stack s H ⟨[.ref a], []⟩ _ _ _ E hr.in1 I.env0.in1 b v2 q) ?_)
    intro r s' hq
    cases r with
    | error e => exact hx pins H s e s' I hq
    | ok fl =>
      cases fl with
      | ret u =>
        obtain ⟨v, H', I', rv, i, ev, h0, h1, q'⟩ := I.after hq
        subst ev
        obtain ⟨t, rfl⟩ : ∃ t, u = Value.int i t := rv
        exact ⟨i, t, rfl, h0, h1, .int i, H', I'.tok _, ⟨_, rfl⟩, q'⟩
      | _ => exact hq.elim
  refine Calls.call_function_entry kind_len plain_len entry_len (args_len1 _) ?_
  unfold Builtin.«len»
  refine wpAny_bind (m := oneArg "len" _) (wpAny_pure (wpAny_bind (m := callSpecial? (.ref a) (Str.ofString "__len__")) ?_))
  simp only [callSpecial?]
  refine wpAny_bind (lk.here (wpAny_holding (wpAny_bind ((PySem.W.bind_fn I.kIn _ (beq_iff_eq.mp hm.fn)).here ?_))))
  refine wpAny_bind (wpAny_mono hcall (fun r s' hr => wpAny_pure ?_) fun _ _ y => y)
  obtain ⟨i, u, rfl, h0, h1, hq⟩ := hr
  refine wpAny_bind (wpAny_holding (wpAny_pure (wpAny_bind (wpAny_letGo ?_))))
  show wpAny _ _ (if i < 0 then _ else _) _ _ _
  rw [if_neg (by omega)]
  show wpAny _ _ (if i ≥ 2 ^ 63 then _ else _) _ _ _
  rw [if_neg (by omega)]
  exact wpAny_bind (wpAny_mkInt (wpAny_pure ⟨_, rfl, hq⟩))
def lenTo (r : Res D) : Res D := r.bind fun x γ => match x with
  | .int i => if 0 ≤ i ∧ i < 2 ^ 63 then .ok (.int i) γ else .stuck
  | _ => .stuck
def eLenC (c n : Nat) (g : List D → List D → Res D) (fo : ESem) : ESem := fun ρ γ => (fo ρ γ).bind fun d γ => match d with
  | .cell j => if isCls c γ j = true then lenTo (if [d].length = n then g [d] γ else .stuck) else .stuck
  | _ => .stuck
theorem de_lenC (L : Lk X B) (he : PE X o (tE B W fo)) (hm : Meth X.K (B.C.cls c) "__len__" f) (O : Ok B.C X.mg X.base k n f g) (hr : Room (k + 1) X.A) (tk : L2N.Takes X W) (hl : X.mg "len" = none)
    (gl : Gl X "len" := by rfl) (hs : starEach [o] X.env = (false, eval o X.env) :: starEach [] X.env := by rfl) (hpl : (backTo pos (starEach [] X.env)).any (·.1) = false := by rfl) : PE X (.Call (.Name "len" p) [o] [] pos) (tE B W (eLenC c n g fo)) := by
  obtain ⟨fd, ps, Fn, hb⟩ := O.ex
  rw [← L.P, ← L.w, ← L.K] at Fn
  rw [← L.K] at hb
  refine ⟨fun pins s σ H Q I h => ?_⟩
  obtain ⟨F, φ, ρ, γ, R, P⟩ := h
  have h2 : tCons (tE B W fo) tNil σ H fun us H1 => ∃ a dx vs, us = [.ref a] ∧ H1 a = some (.ins (B.C.cls c) dx ((B.C.fld c).zip vs)) ∧ spM B.C n g us H1 (fun v H2 => ∃ i : Int, v = .int i ∧ 0 ≤ i ∧ i < 2 ^ 63 ∧ Q (.int i) H2) (WE W σ) := by
    refine run1 R P fun d γ1 v F1 φ1 H1 x1 R1 d1 P1 => ?_
    cases d with
    | cell j =>
      simp only at P1
      by_cases hc : isCls c γ1 j = true
      · rw [if_pos hc] at P1
        obtain ⟨a, dx, vs, rfl, h1⟩ := isCls_ok R1 d1 hc
        refine ⟨a, dx, vs, rfl, h1, sp_of R1 (.one d1) ?_⟩
        cases q : (if [D.cell j].length = n then g [.cell j] γ1 else .stuck) with
        | ok d γ' =>
          rw [q] at P1
          intro v F' φ' H' x6 R6 d6
          cases d with
          | int i =>
            have d6 : Den B.C φ' F' (.int i) v := d6
            rw [Den] at d6
            by_cases hi : 0 ≤ i ∧ i < 2 ^ 63
            · have P2 : Post B W (rDen B) F1 φ1 H1 ρ σ (.ok (.int i) γ') Q := by
                have e : lenTo (.ok (.int i) γ') = .ok (.int i) γ' := by
                  show (if 0 ≤ i ∧ i < 2 ^ 63 then Res.ok (D.int i) γ' else .stuck) = _
                  rw [if_pos hi]
                rw [← e]; exact P1
              exact ⟨i, d6, hi.1, hi.2, P2 (.int i) F' φ' H' x6 R6 (by show Den _ _ _ _ _; rw [Den])⟩
            · have e : lenTo (.ok (.int i) γ') = .stuck := by
                show (if 0 ≤ i ∧ i < 2 ^ 63 then Res.ok (D.int i) γ' else .stuck) = _
                rw [if_neg hi]
              rw [e] at P1
              exact P1.elim
          | _ => exact P1.elim
        | err k γ' =>
          rw [q] at P1
          intro F' φ' H' x6 R6
          exact P1 F' φ' H' x6 R6
        | stuck => rw [q] at P1; exact P1.elim
      · rw [if_neg hc] at P1; exact P1.elim
    | _ => exact P1.elim
  refine wpAny_Call_Name_kw (ld_blt I gl hl boot_len ?_ (by decide) (by decide))
  refine PyProof.Rows.callWith_builtin1 (thn ((pa_cons he pa_nil hs).run pos pins s σ H _ I h2) fun us s1 hh => ?_) hs hpl
  obtain ⟨vs, H1, I1, r1, a, dx, ws, ev, ea, q⟩ := hh
  subst ev
  cases r1 with
  | cons ru rn =>
    cases rn
    rename_i u
    obtain rfl : u = Value.ref a := ru
    exact len_ownK I1 ea hm Fn hr hb (L2N.passAt tk σ) q
/-! ### x is not True -/
def bNotB : D → D → Option Bool := fun x y => match x, y with
  | .bl a, .bl b => some (!decide (a = b))
  | _, _ => none
theorem opb_notB : OpB B rNotB bNotB := by
  intro F φ H ρ γ σ a b k x y Q R h1 h2 e q
  unfold bNotB at e
  split at e
  · rename_i i j
    cases e
    exact ⟨i, j, Pk.bl R h1, Pk.bl R h2, q⟩
  · cases e
theorem dt_notB {a b : Expr} {fa fb : ESem} (ha : PE X a (tP B W fa)) (hb : PE X b (tP B W fb)) (hm : behindInMarks .IsNot b = false := by rfl) : PT X (.Compare a [.IsNot] [b] pos) (tT B W (cCmp bNotB fa fb)) := dt_cmp op_notBl opb_notB ha hb hm
end
end DL

namespace K13
open PySem PySem.Spec PyProof.Rows L2 DL
def top (i : Nat) : Stmt := PySem.Challenge.pw_stackforms_k13_errors_apart.main.body.getD i (.Pass ⟨0, 0, 0, 0⟩)
def clsB (s : Stmt) : List Stmt := match s with
  | .ClassDef _ _ _ b _ _ _ _ _ _ _ => b
  | _ => []
def clsN : Nat → Str
  | 0 => "Work"
  | 1 => "Desk"
  | _ => ""
def fldN : Nat → List Str
  | 0 => ["need", "rows"]
  | 1 => ["rows", "undone"]
  | _ => []
def excN : Nat → Str
  | 0 => "StackError"
  | 1 => "InvalidProgram"
  | 2 => "InvalidStack"
  | 3 => "InvalidBook"
  | 4 => "InvalidNumber"
  | 5 => "InvalidShuffle"
  | 6 => "InvalidText"
  | 7 => "InvalidPlace"
  | 8 => "TooFew"
  | 9 => "TooMany"
  | 10 => "NothingToUndo"
  | _ => ""
abbrev CT (P : Program) (w : World) (K : PySem.W.Frag) : Ct := ⟨P, w, K, fun c => He.ga K (clsN c), fldN, fun c => He.ga K (excN c), [((He.cT K ("law", none)).2, ("law.<locals>." : Str) ++ "<lambda>")]⟩
def okl : List Nat := [1, 2, 3, 4, 5, 6, 7, 8, 9, 10]
def okn (n : Nat) : Bool := okl.contains n
theorem okn_mem {n : Nat} (h : okn n = true) : n ∈ okl := List.contains_iff_mem.mp h
def t_SHUFFLES : List Str := ["dup", "drop", "swap", "over", "rot", "nip", "tuck"]
def t_WORDS : List Str := ["dup", "drop", "swap", "over", "rot", "nip", "tuck", "add", "sub", "mul", "neg"]
def tab_NEEDS : List (Str × Int) := [("dup", 1), ("drop", 1), ("swap", 2), ("over", 2), ("rot", 3), ("nip", 2), ("tuck", 2), ("add", 2), ("sub", 2), ("mul", 2), ("neg", 1)]
theorem nf_Desk_redo : ("redo" : Str) ∉ fldN 1 := by decide +kernel
theorem nf_Work_behind : ("behind" : Str) ∉ fldN 0 := by decide +kernel
theorem nf_Work_told : ("told" : Str) ∉ fldN 0 := by decide +kernel
structure Fc (K : PySem.W.Frag) (w : World) (mg : Str → Option Value) : Prop where
  b_ValueError : mg "ValueError" = none
  b_abs : mg "abs" = none
  b_all : mg "all" = none
  b_any : mg "any" = none
  b_bool : mg "bool" = none
  b_dict : mg "dict" = none
  b_enumerate : mg "enumerate" = none
  b_int : mg "int" = none
  b_isinstance : mg "isinstance" = none
  b_len : mg "len" = none
  b_list : mg "list" = none
  b_max : mg "max" = none
  b_min : mg "min" = none
  b_range : mg "range" = none
  b_sorted : mg "sorted" = none
  b_str : mg "str" = none
  b_sum : mg "sum" = none
  b_tuple : mg "tuple" = none
  g__law_alone : mg "_law_alone" = some (.ref (He.ga K "_law_alone"))
  k__law_alone : PySem.W.keepIn K (.ref (He.ga K "_law_alone")) = true
  g__law_cell : mg "_law_cell" = some (.ref (He.ga K "_law_cell"))
  k__law_cell : PySem.W.keepIn K (.ref (He.ga K "_law_cell")) = true
  g__law_drawn : mg "_law_drawn" = some (.ref (He.ga K "_law_drawn"))
  k__law_drawn : PySem.W.keepIn K (.ref (He.ga K "_law_drawn")) = true
  g__law_met : mg "_law_met" = some (.ref (He.ga K "_law_met"))
  k__law_met : PySem.W.keepIn K (.ref (He.ga K "_law_met")) = true
  g__law_roll : mg "_law_roll" = some (.ref (He.ga K "_law_roll"))
  k__law_roll : PySem.W.keepIn K (.ref (He.ga K "_law_roll")) = true
  g__law_rounds : mg "_law_rounds" = some (.ref (He.ga K "_law_rounds"))
  k__law_rounds : PySem.W.keepIn K (.ref (He.ga K "_law_rounds")) = true
  g_added : mg "added" = some (.ref (He.ga K "added"))
  k_added : PySem.W.keepIn K (.ref (He.ga K "added")) = true
  g_checked : mg "checked" = some (.ref (He.ga K "checked"))
  k_checked : PySem.W.keepIn K (.ref (He.ga K "checked")) = true
  g_cleaned : mg "cleaned" = some (.ref (He.ga K "cleaned"))
  k_cleaned : PySem.W.keepIn K (.ref (He.ga K "cleaned")) = true
  g_constant : mg "constant" = some (.ref (He.ga K "constant"))
  k_constant : PySem.W.keepIn K (.ref (He.ga K "constant")) = true
  g_count_shuffles : mg "count_shuffles" = some (.ref (He.ga K "count_shuffles"))
  k_count_shuffles : PySem.W.keepIn K (.ref (He.ga K "count_shuffles")) = true
  g_form : mg "form" = some (.ref (He.ga K "form"))
  k_form : PySem.W.keepIn K (.ref (He.ga K "form")) = true
  g_is_book : mg "is_book" = some (.ref (He.ga K "is_book"))
  k_is_book : PySem.W.keepIn K (.ref (He.ga K "is_book")) = true
  g_is_name : mg "is_name" = some (.ref (He.ga K "is_name"))
  k_is_name : PySem.W.keepIn K (.ref (He.ga K "is_name")) = true
  g_is_program : mg "is_program" = some (.ref (He.ga K "is_program"))
  k_is_program : PySem.W.keepIn K (.ref (He.ga K "is_program")) = true
  g_is_shuffle_row : mg "is_shuffle_row" = some (.ref (He.ga K "is_shuffle_row"))
  k_is_shuffle_row : PySem.W.keepIn K (.ref (He.ga K "is_shuffle_row")) = true
  g_is_stack : mg "is_stack" = some (.ref (He.ga K "is_stack"))
  k_is_stack : PySem.W.keepIn K (.ref (He.ga K "is_stack")) = true
  g_is_whole : mg "is_whole" = some (.ref (He.ga K "is_whole"))
  k_is_whole : PySem.W.keepIn K (.ref (He.ga K "is_whole")) = true
  g_is_word : mg "is_word" = some (.ref (He.ga K "is_word"))
  k_is_word : PySem.W.keepIn K (.ref (He.ga K "is_word")) = true
  g_joint : mg "joint" = some (.ref (He.ga K "joint"))
  k_joint : PySem.W.keepIn K (.ref (He.ga K "joint")) = true
  g_laid : mg "laid" = some (.ref (He.ga K "laid"))
  k_laid : PySem.W.keepIn K (.ref (He.ga K "laid")) = true
  g_led : mg "led" = some (.ref (He.ga K "led"))
  k_led : PySem.W.keepIn K (.ref (He.ga K "led")) = true
  g_left_out : mg "left_out" = some (.ref (He.ga K "left_out"))
  k_left_out : PySem.W.keepIn K (.ref (He.ga K "left_out")) = true
  g_need_book : mg "need_book" = some (.ref (He.ga K "need_book"))
  k_need_book : PySem.W.keepIn K (.ref (He.ga K "need_book")) = true
  g_need_most : mg "need_most" = some (.ref (He.ga K "need_most"))
  k_need_most : PySem.W.keepIn K (.ref (He.ga K "need_most")) = true
  g_need_program : mg "need_program" = some (.ref (He.ga K "need_program"))
  k_need_program : PySem.W.keepIn K (.ref (He.ga K "need_program")) = true
  g_need_stack : mg "need_stack" = some (.ref (He.ga K "need_stack"))
  k_need_stack : PySem.W.keepIn K (.ref (He.ga K "need_stack")) = true
  g_needed : mg "needed" = some (.ref (He.ga K "needed"))
  k_needed : PySem.W.keepIn K (.ref (He.ga K "needed")) = true
  g_parse_program : mg "parse_program" = some (.ref (He.ga K "parse_program"))
  k_parse_program : PySem.W.keepIn K (.ref (He.ga K "parse_program")) = true
  g_product : mg "product" = some (.ref (He.ga K "product"))
  k_product : PySem.W.keepIn K (.ref (He.ga K "product")) = true
  g_run : mg "run" = some (.ref (He.ga K "run"))
  k_run : PySem.W.keepIn K (.ref (He.ga K "run")) = true
  g_shuffle_words : mg "shuffle_words" = some (.ref (He.ga K "shuffle_words"))
  k_shuffle_words : PySem.W.keepIn K (.ref (He.ga K "shuffle_words")) = true
  g_trace_of : mg "trace_of" = some (.ref (He.ga K "trace_of"))
  k_trace_of : PySem.W.keepIn K (.ref (He.ga K "trace_of")) = true
  g_unknown : mg "unknown" = some (.ref (He.ga K "unknown"))
  k_unknown : PySem.W.keepIn K (.ref (He.ga K "unknown")) = true
  g_uses : mg "uses" = some (.ref (He.ga K "uses"))
  k_uses : PySem.W.keepIn K (.ref (He.ga K "uses")) = true
  g_word_of : mg "word_of" = some (.ref (He.ga K "word_of"))
  k_word_of : PySem.W.keepIn K (.ref (He.ga K "word_of")) = true
  g_work_of : mg "work_of" = some (.ref (He.ga K "work_of"))
  k_work_of : PySem.W.keepIn K (.ref (He.ga K "work_of")) = true
  g_worked : mg "worked" = some (.ref (He.ga K "worked"))
  k_worked : PySem.W.keepIn K (.ref (He.ga K "worked")) = true
  g_written : mg "written" = some (.ref (He.ga K "written"))
  k_written : PySem.W.keepIn K (.ref (He.ga K "written")) = true
  g_written_program : mg "written_program" = some (.ref (He.ga K "written_program"))
  k_written_program : PySem.W.keepIn K (.ref (He.ga K "written_program")) = true
  i_MOST_DEGREE : ∃ t, mg "MOST_DEGREE" = some (.int 16 t)
  i_MOST_DEPTH : ∃ t, mg "MOST_DEPTH" = some (.int 100 t)
  i_MOST_NAMES : ∃ t, mg "MOST_NAMES" = some (.int 6 t)
  i_MOST_NUMBER_polynomials : ∃ t, mg "MOST_NUMBER_polynomials" = some (.int 1000000000000000000000000000000000000000000000000000000000000 t)
  i_MOST_NUMBER_programs : ∃ t, mg "MOST_NUMBER_programs" = some (.int 1000000000000000000000000000000000000000000000000000000000000 t)
  i_MOST_SHUFFLE : ∃ t, mg "MOST_SHUFFLE" = some (.int 6 t)
  i_MOST_TERMS : ∃ t, mg "MOST_TERMS" = some (.int 200 t)
  i_MOST_WORDS : ∃ t, mg "MOST_WORDS" = some (.int 60 t)
  a_SHUFFLES : mg "SHUFFLES" = some (.ref (He.ga K "SHUFFLES"))
  t_SHUFFLES : TupS K (He.ga K "SHUFFLES") t_SHUFFLES
  a_WORDS : mg "WORDS" = some (.ref (He.ga K "WORDS"))
  t_WORDS : TupS K (He.ga K "WORDS") t_WORDS
  a_NEEDS : mg "NEEDS" = some (.ref (He.ga K "NEEDS"))
  tab_NEEDS : ∀ z i, tab_NEEDS.lookup z = some i → KDct K w (He.ga K "NEEDS") z (.int i)
  g_InvalidBook : mg "InvalidBook" = some (.ref (He.ga K "InvalidBook"))
  e_InvalidBook : ExcF K (He.ga K "InvalidBook")
  g_InvalidNumber : mg "InvalidNumber" = some (.ref (He.ga K "InvalidNumber"))
  e_InvalidNumber : ExcF K (He.ga K "InvalidNumber")
  g_InvalidPlace : mg "InvalidPlace" = some (.ref (He.ga K "InvalidPlace"))
  e_InvalidPlace : ExcF K (He.ga K "InvalidPlace")
  g_InvalidProgram : mg "InvalidProgram" = some (.ref (He.ga K "InvalidProgram"))
  e_InvalidProgram : ExcF K (He.ga K "InvalidProgram")
  g_InvalidShuffle : mg "InvalidShuffle" = some (.ref (He.ga K "InvalidShuffle"))
  e_InvalidShuffle : ExcF K (He.ga K "InvalidShuffle")
  g_InvalidStack : mg "InvalidStack" = some (.ref (He.ga K "InvalidStack"))
  e_InvalidStack : ExcF K (He.ga K "InvalidStack")
  g_InvalidText : mg "InvalidText" = some (.ref (He.ga K "InvalidText"))
  e_InvalidText : ExcF K (He.ga K "InvalidText")
  g_NothingToUndo : mg "NothingToUndo" = some (.ref (He.ga K "NothingToUndo"))
  e_NothingToUndo : ExcF K (He.ga K "NothingToUndo")
  g_StackError : mg "StackError" = some (.ref (He.ga K "StackError"))
  e_StackError : ExcF K (He.ga K "StackError")
  g_TooFew : mg "TooFew" = some (.ref (He.ga K "TooFew"))
  e_TooFew : ExcF K (He.ga K "TooFew")
  g_TooMany : mg "TooMany" = some (.ref (He.ga K "TooMany"))
  e_TooMany : ExcF K (He.ga K "TooMany")
  g_Desk : mg "Desk" = some (.ref (He.ga K "Desk"))
  cl_Desk : Cls K (He.ga K "Desk")
  mk_Desk : Mk K (He.ga K "Desk") (He.ma K (He.ga K "Desk") "__init__")
  na_Desk_rows : NoAttr K (He.ga K "Desk") "rows"
  na_Desk_undone : NoAttr K (He.ga K "Desk") "undone"
  g_Work : mg "Work" = some (.ref (He.ga K "Work"))
  cl_Work : Cls K (He.ga K "Work")
  mk_Work : Mk K (He.ga K "Work") (He.ma K (He.ga K "Work") "__init__")
  na_Work_need : NoAttr K (He.ga K "Work") "need"
  na_Work_rows : NoAttr K (He.ga K "Work") "rows"
  m_Desk_redo : Meth K (He.ga K "Desk") "redo" (He.ma K (He.ga K "Desk") "redo")
  m_Work_behind : Meth K (He.ga K "Work") "behind" (He.ma K (He.ga K "Work") "behind")
  m_Work_told : Meth K (He.ga K "Work") "told" (He.ma K (He.ga K "Work") "told")
abbrev s__law_cell : Stmt := top 78
def fb__law_cell : SSem := (sSeq (sIf (cCmp dEqN (eVar 0) (eLst (aLim 1000000 aNil))) (sRet (eOp gMulA (eVar 1) (eC (.int 7919)))) sSkip)
  (sRet (eOp gAddA (eSubA (eVar 0) (eOp gModI (eVar 1) (eCall dLenA (aCons (eVar 0) aNil)))) (eOp gMulA (eOp gDivI (eVar 1) (eCall dLenA (aCons (eVar 0) aNil))) (eC (.int 104729))))))
def g__law_cell : List D → List D → Res D := fun ds γ => bodyR (fb__law_cell (startE 2 ds) γ)
theorem sc__law_cell : FnScope ["script", "k"] ["script", "k"] (defScope s__law_cell) := ⟨rfl, rfl, rfl, by decide +kernel, rfl, by decide +kernel, by decide +kernel⟩
theorem ok__law_cell {P : Program} {w : World} {K : PySem.W.Frag} {mg : Str → Option Value} {base : Heap} {f : Addr} {fd : FuncData} (c : Fc K w mg) (Fd : FunD K "_law_cell" "_law_cell" (defArgs s__law_cell) (defBody s__law_cell) (defScope s__law_cell) [] [] f fd) : Ok (CT P w K) mg base 1 2 f g__law_cell := ⟨fd, ["script", "k"], by
  refine fn_dl (fb := fb__law_cell) (C := CT P w K) Fd sc__law_cell ?_ (fun _ _ _ _ => rfl)
  rintro ⟨_, F0, φ0, H0⟩ cdv A outer s H E rfl hr tk hp
  have hu := hr.units
  exact (dss_cons (ds_if (dt_eqN ⟨rfl, rfl, rfl⟩ hu (dp (de_v (i := 0))) (dp (de_fr (df_lst da_nil)))) (dss_one (ds_ret (de_mulA rfl (dp (de_v (i := 1))) (dp de_int)))) dss_nil)
    (dss_one (ds_ret (de_addA rfl (dp (de_subA ⟨rfl, rfl, rfl⟩ hu (de_v (i := 0)) (de_modI (dp (de_v (i := 1))) (dp (de_len ⟨rfl, rfl, rfl⟩ c.b_len (dps_cons (dp (de_v (i := 0))) dps_nil)))))) (dp (de_mulA rfl (dp (de_divI (dp (de_v (i := 1))) (dp (de_len ⟨rfl, rfl, rfl⟩ c.b_len (dps_cons (dp (de_v (i := 0))) dps_nil))))) (dp de_int))))))), Fd.bindsN fun _ _ _ _ _ _ us hl => match us, hl with | [_, _], _ => rfl⟩
abbrev s__law_rounds : Stmt := top 81
def fb__law_rounds : SSem := (sRet (eLc (lRng1 (aCons (eCall dMax (aCons (eC (.int 1)) (aCons (eCall dMin (aCons (eVar 1) (aCons (eCall dLenA (aCons (eVar 0) aNil)) aNil))) aNil))) aNil)) [2] (gtN 2) cYesS (eCell (aCons (eFn 2 g__law_cell (aCons (eVar 0) (aCons (eVar 2) aNil))) (aCons (eC (.int 0)) aNil)))))
def g__law_rounds : List D → List D → Res D := fun ds γ => bodyR (fb__law_rounds (startE 3 ds) γ)
theorem sc__law_rounds : FnScope ["script", "most", "k"] ["script", "most"] (defScope s__law_rounds) := ⟨rfl, rfl, rfl, by decide +kernel, rfl, by decide +kernel, by decide +kernel⟩
theorem ok__law_rounds {P : Program} {w : World} {K : PySem.W.Frag} {mg : Str → Option Value} {base : Heap} {f : Addr} {fd : FuncData} (c : Fc K w mg) (o__law_cell : Ok (CT P w K) mg base 1 2 (He.ga K "_law_cell") g__law_cell) (Fd : FunD K "_law_rounds" "_law_rounds" (defArgs s__law_rounds) (defBody s__law_rounds) (defScope s__law_rounds) [] [] f fd) : Ok (CT P w K) mg base 2 2 f g__law_rounds := ⟨fd, ["script", "most"], by
  refine fn_dl (fb := fb__law_rounds) (C := CT P w K) Fd sc__law_rounds ?_ (fun _ _ _ _ => rfl)
  rintro ⟨_, F0, φ0, H0⟩ cdv A outer s H E rfl hr tk hp
  have hu := hr.units
  exact (dss_one (ds_ret (de_fr (df_lc (own := [("k", 2)]) rfl sc__law_rounds.nd (di_range1 rfl c.b_range (dps_cons (dp (de_callB (call_max2 rfl) cd_max rfl c.b_max boot_max (dps_cons (dp de_int) (dps_cons (dp (de_callB (call_min2 rfl) cd_min rfl c.b_min boot_min (dps_cons (dp (de_v (i := 1))) (dps_cons (dp (de_len ⟨rfl, rfl, rfl⟩ c.b_len (dps_cons (dp (de_v (i := 0))) dps_nil))) dps_nil)))) dps_nil)))) dps_nil)) (blk_of (by kernel_rfl)) (fun _ _ _ _ _ => (pg_name (i := 2) sc__law_rounds.nd rfl (by first | exact .inl rfl | exact .inr rfl))) gt_n (fun _ _ _ _ _ => dts_nil) (fun _ _ _ _ _ => (de_cell (da_cons (de_call (k := 1) ⟨rfl, rfl, rfl⟩ o__law_cell (hr.mono (by decide)) c.g__law_cell c.k__law_cell takesN0 (da_cons (de_v (i := 0)) (da_cons (de_v (i := 2)) da_nil))) (da_cons de_int da_nil)))))))), Fd.bindsN fun _ _ _ _ _ _ us hl => match us, hl with | [_, _], _ => rfl⟩
abbrev s__law_drawn : Stmt := top 79
def fb__law_drawn : SSem := (sSeq (sSet 2 (eOp gModI (eOp gAddA (eOp gMulA (eVar 0) (eC (.int 6364136223846793005))) (eOp gMulA (eOp gAddA (eVar 1) (eC (.int 1))) (eC (.int 1442695040888963407)))) (eC (.int 340282366920938463463374607431768211507))))
  (sSeq (sSet 2 (eOp gModI (eOp gMulA (eVar 2) (eVar 2)) (eC (.int 340282366920938463463374607431768211297))))
  (sSeq (sSet 2 (eOp gMulA (eOp gMulA (eOp gAddA (eOp gModI (eVar 2) (eC (.int 18446744073709551557))) (eC (.int 1))) (eOp gAddA (eOp gDivI (eVar 2) (eC (.int 18446744073709551557))) (eC (.int 1)))) (eVar 2)))
  (sRet (eOp gModI (eVar 2) (eC (.int 340282366920938463463374607431768211507)))))))
def g__law_drawn : List D → List D → Res D := fun ds γ => bodyR (fb__law_drawn (startE 3 ds) γ)
theorem sc__law_drawn : FnScope ["cell", "k", "more"] ["cell", "k"] (defScope s__law_drawn) := ⟨rfl, rfl, rfl, by decide +kernel, rfl, by decide +kernel, by decide +kernel⟩
theorem ok__law_drawn {P : Program} {w : World} {K : PySem.W.Frag} {mg : Str → Option Value} {base : Heap} {f : Addr} {fd : FuncData} (c : Fc K w mg) (Fd : FunD K "_law_drawn" "_law_drawn" (defArgs s__law_drawn) (defBody s__law_drawn) (defScope s__law_drawn) [] [] f fd) : Ok (CT P w K) mg base 1 2 f g__law_drawn := ⟨fd, ["cell", "k"], by
  refine fn_dl (fb := fb__law_drawn) (C := CT P w K) Fd sc__law_drawn ?_ (fun _ _ _ _ => rfl)
  rintro ⟨_, F0, φ0, H0⟩ cdv A outer s H E rfl hr tk hp
  have hu := hr.units
  exact (dss_cons (ds_set (i := 2) sc__law_drawn.nd rfl (by first | exact .inl rfl | exact .inr rfl) (de_modI (dp (de_addA rfl (dp (de_mulA rfl (dp (de_v (i := 0))) (dp de_int))) (dp (de_mulA rfl (dp (de_addA rfl (dp (de_v (i := 1))) (dp de_int))) (dp de_int))))) (dp de_int)))
    (dss_cons (ds_set (i := 2) sc__law_drawn.nd rfl (by first | exact .inl rfl | exact .inr rfl) (de_modI (dp (de_mulA rfl (dp (de_v (i := 2))) (dp (de_v (i := 2))))) (dp de_int)))
    (dss_cons (ds_set (i := 2) sc__law_drawn.nd rfl (by first | exact .inl rfl | exact .inr rfl) (de_mulA rfl (dp (de_mulA rfl (dp (de_addA rfl (dp (de_modI (dp (de_v (i := 2))) (dp de_int))) (dp de_int))) (dp (de_addA rfl (dp (de_divI (dp (de_v (i := 2))) (dp de_int))) (dp de_int))))) (dp (de_v (i := 2)))))
    (dss_one (ds_ret (de_modI (dp (de_v (i := 2))) (dp de_int))))))), Fd.bindsN fun _ _ _ _ _ _ us hl => match us, hl with | [_, _], _ => rfl⟩
abbrev s__law_roll : Stmt := top 80
def fb__law_roll : SSem := (sSeq (sIf (cCmp bGe (eSubA (eVar 0) (eC (.int 0))) (eOp gPowI (eC (.int 10)) (eC (.int 18)))) (sSeq (sSet 2 (eOp gModI (eSubA (eVar 0) (eC (.int 0))) (eVar 1)))
  (sSeq (sSetC (eVar 0) (eC (.int 0)) (eOp gDivI (eSubA (eVar 0) (eC (.int 0))) (eVar 1)))
  (sRet (eVar 2)))) sSkip)
  (sSeq (sSetC (eVar 0) (eC (.int 1)) (eOp gAddA (eSubA (eVar 0) (eC (.int 1))) (eC (.int 1))))
  (sRet (eOp gModI (eOp gDivI (eFn 2 g__law_drawn (aCons (eSubA (eVar 0) (eC (.int 0))) (aCons (eSubA (eVar 0) (eC (.int 1))) aNil))) (eC (.int 8))) (eVar 1)))))
def g__law_roll : List D → List D → Res D := fun ds γ => bodyR (fb__law_roll (startE 3 ds) γ)
theorem sc__law_roll : FnScope ["dice", "many", "told"] ["dice", "many"] (defScope s__law_roll) := ⟨rfl, rfl, rfl, by decide +kernel, rfl, by decide +kernel, by decide +kernel⟩
theorem ok__law_roll {P : Program} {w : World} {K : PySem.W.Frag} {mg : Str → Option Value} {base : Heap} {f : Addr} {fd : FuncData} (c : Fc K w mg) (o__law_drawn : Ok (CT P w K) mg base 1 2 (He.ga K "_law_drawn") g__law_drawn) (Fd : FunD K "_law_roll" "_law_roll" (defArgs s__law_roll) (defBody s__law_roll) (defScope s__law_roll) [] [] f fd) : Ok (CT P w K) mg base 2 2 f g__law_roll := ⟨fd, ["dice", "many"], by
  refine fn_dl (fb := fb__law_roll) (C := CT P w K) Fd sc__law_roll ?_ (fun _ _ _ _ => rfl)
  rintro ⟨_, F0, φ0, H0⟩ cdv A outer s H E rfl hr tk hp
  have hu := hr.units
  exact (dss_cons (ds_if (dt_ge (dp (de_subA ⟨rfl, rfl, rfl⟩ hu (de_v (i := 0)) de_int)) (dp (de_powI (dp de_int) (dp de_int)))) (dss_cons (ds_set (i := 2) sc__law_roll.nd rfl (by first | exact .inl rfl | exact .inr rfl) (de_modI (dp (de_subA ⟨rfl, rfl, rfl⟩ hu (de_v (i := 0)) de_int)) (dp (de_v (i := 1)))))
    (dss_cons (ds_setC (de_v (i := 0)) de_int (de_divI (dp (de_subA ⟨rfl, rfl, rfl⟩ hu (de_v (i := 0)) de_int)) (dp (de_v (i := 1)))))
    (dss_one (ds_ret (de_v (i := 2)))))) dss_nil)
    (dss_cons (ds_setC (de_v (i := 0)) de_int (de_addA rfl (dp (de_subA ⟨rfl, rfl, rfl⟩ hu (de_v (i := 0)) de_int)) (dp de_int)))
    (dss_one (ds_ret (de_modI (dp (de_divI (dp (de_call (k := 1) ⟨rfl, rfl, rfl⟩ o__law_drawn (hr.mono (by decide)) c.g__law_drawn c.k__law_drawn tk (da_cons (de_subA ⟨rfl, rfl, rfl⟩ hu (de_v (i := 0)) de_int) (da_cons (de_subA ⟨rfl, rfl, rfl⟩ hu (de_v (i := 0)) de_int) da_nil)))) (dp de_int))) (dp (de_v (i := 1)))))))), Fd.bindsN fun _ _ _ _ _ _ us hl => match us, hl with | [_, _], _ => rfl⟩
abbrev s__law_met : Stmt := top 82
theorem sc__law_met : FnScope ["deed", "e"] ["deed"] (defScope s__law_met) := ⟨rfl, rfl, rfl, by decide +kernel, rfl, by decide +kernel, by decide +kernel⟩
theorem ok__law_met {P : Program} {w : World} {K : PySem.W.Frag} {mg : Str → Option Value} {base : Heap} {f : Addr} {fd : FuncData} (c : Fc K w mg) (t : TermF K (fun c => He.ga K (excN c)) okl (He.ga K "StackError")) (Fd : FunD K "_law_met" "_law_met" (defArgs s__law_met) (defBody s__law_met) (defScope s__law_met) [] [] f fd) : ∀ k, MetOk (CT P w K) mg base (k + 1) f okn := fun k =>
  met_ok (C := CT P w K) (e := "e") (a := "deed") (se := "StackError") Fd sc__law_met (Fd.bindsN fun _ _ _ _ _ _ us hl => match us, hl with | [_], _ => rfl) rfl rfl (.inl rfl) rfl rfl c.g_StackError (fun n ho => t.exm n (okn_mem ho))
abbrev s_is_whole : Stmt := top 33
def fb_is_whole : SSem := (sRet (eAnd (eCall dIsi (aCons (eVar 0) (aCons (eC (.raw (.ty "int"))) aNil))) (eAnd (eNot (eCall dIsi (aCons (eVar 0) (aCons (eC (.raw (.ty "bool"))) aNil)))) (eChain bLe bLe (eVar 1) (eVar 0) (eVar 2)))))
def g_is_whole : List D → List D → Res D := fun ds γ => bodyR (fb_is_whole (startE 3 ds) γ)
theorem sc_is_whole : FnScope ["value", "low", "high"] ["value", "low", "high"] (defScope s_is_whole) := ⟨rfl, rfl, rfl, by decide +kernel, rfl, by decide +kernel, by decide +kernel⟩
theorem ok_is_whole {P : Program} {w : World} {K : PySem.W.Frag} {mg : Str → Option Value} {base : Heap} {f : Addr} {fd : FuncData} (c : Fc K w mg) (Fd : FunD K "is_whole" "is_whole" (defArgs s_is_whole) (defBody s_is_whole) (defScope s_is_whole) [] [] f fd) : Ok (CT P w K) mg base 1 3 f g_is_whole := ⟨fd, ["value", "low", "high"], by
  refine fn_dl (fb := fb_is_whole) (C := CT P w K) Fd sc_is_whole ?_ (fun _ _ _ _ => rfl)
  rintro ⟨_, F0, φ0, H0⟩ cdv A outer s H E rfl hr tk hp
  have hu := hr.units
  exact (dss_one (ds_ret (de_and (dp (de_callB call_isi (cd_isi rfl) rfl c.b_isinstance boot_isinstance (dps_cons (dp (de_v (i := 0))) (dps_cons (dp (de_bltn rfl c.b_int boot_int rfl)) dps_nil)))) (de_and (dp (de_not (dp (de_callB call_isi (cd_isi rfl) rfl c.b_isinstance boot_isinstance (dps_cons (dp (de_v (i := 0))) (dps_cons (dp (de_bltn rfl c.b_bool boot_bool rfl)) dps_nil)))))) (de_one (de_lele (dp (de_v (i := 1))) (dp (de_v (i := 0))) (dp (de_v (i := 2))))))))), Fd.bindsN fun _ _ _ _ _ _ us hl => match us, hl with | [_, _, _], _ => rfl⟩
abbrev s_is_word : Stmt := top 34
def fb_is_word : SSem := (sRet (eIf (cVal (eCall dIsi (aCons (eVar 0) (aCons (eC (.raw (.ty "str"))) aNil)))) (eCmp dInA (eVar 0) (eC (.tup (t_WORDS.map D.str)))) (eFn 3 g_is_whole (aCons (eVar 0) (aCons (eNeg (eC (.int 9))) (aCons (eC (.int 9)) aNil))))))
def g_is_word : List D → List D → Res D := fun ds γ => bodyR (fb_is_word (startE 1 ds) γ)
theorem sc_is_word : FnScope ["value"] ["value"] (defScope s_is_word) := ⟨rfl, rfl, rfl, by decide +kernel, rfl, by decide +kernel, by decide +kernel⟩
theorem ok_is_word {P : Program} {w : World} {K : PySem.W.Frag} {mg : Str → Option Value} {base : Heap} {f : Addr} {fd : FuncData} (c : Fc K w mg) (o_is_whole : Ok (CT P w K) mg base 1 3 (He.ga K "is_whole") g_is_whole) (Fd : FunD K "is_word" "is_word" (defArgs s_is_word) (defBody s_is_word) (defScope s_is_word) [] [] f fd) : Ok (CT P w K) mg base 2 1 f g_is_word := ⟨fd, ["value"], by
  refine fn_dl (fb := fb_is_word) (C := CT P w K) Fd sc_is_word ?_ (fun _ _ _ _ => rfl)
  rintro ⟨_, F0, φ0, H0⟩ cdv A outer s H E rfl hr tk hp
  have hu := hr.units
  exact (dss_one (ds_ret (de_if (dt_val (dp (de_callB call_isi (cd_isi rfl) rfl c.b_isinstance boot_isinstance (dps_cons (dp (de_v (i := 0))) (dps_cons (dp (de_bltn rfl c.b_str boot_str rfl)) dps_nil))))) (de_inA ⟨rfl, rfl, rfl⟩ hu (dp (de_v (i := 0))) (dp (de_gtup ⟨rfl, rfl, rfl⟩ c.a_WORDS c.t_WORDS))) (de_call (k := 1) ⟨rfl, rfl, rfl⟩ o_is_whole (hr.mono (by decide)) c.g_is_whole c.k_is_whole tk (da_cons (de_v (i := 0)) (da_cons (de_neg (dp de_int)) (da_cons de_int da_nil))))))), Fd.bindsN fun _ _ _ _ _ _ us hl => match us, hl with | [_], _ => rfl⟩
abbrev s_is_program : Stmt := top 35
def fb_is_program : SSem := (sRet (eAnd (eCall dIsi (aCons (eVar 0) (aCons (eC (.raw (.ty "tuple"))) aNil))) (eAnd (eCmp bLe (eCall dLenA (aCons (eVar 0) aNil)) (eC (.int 60))) (eCall dAll (aCons (eLc (lAny (eVar 0)) [1] (gtN 1) cYesS (eFn 1 g_is_word (aCons (eVar 1) aNil))) aNil)))))
def g_is_program : List D → List D → Res D := fun ds γ => bodyR (fb_is_program (startE 2 ds) γ)
theorem sc_is_program : FnScope ["value", "one"] ["value"] (defScope s_is_program) := ⟨rfl, rfl, rfl, by decide +kernel, rfl, by decide +kernel, by decide +kernel⟩
theorem ok_is_program {P : Program} {w : World} {K : PySem.W.Frag} {mg : Str → Option Value} {base : Heap} {f : Addr} {fd : FuncData} (c : Fc K w mg) (o_is_word : Ok (CT P w K) mg base 2 1 (He.ga K "is_word") g_is_word) (Fd : FunD K "is_program" "is_program" (defArgs s_is_program) (defBody s_is_program) (defScope s_is_program) [] [] f fd) : Ok (CT P w K) mg base 3 1 f g_is_program := ⟨fd, ["value"], by
  refine fn_dl (fb := fb_is_program) (C := CT P w K) Fd sc_is_program ?_ (fun _ _ _ _ => rfl)
  rintro ⟨_, F0, φ0, H0⟩ cdv A outer s H E rfl hr tk hp
  have hu := hr.units
  exact (dss_one (ds_ret (de_and (dp (de_callB call_isi (cd_isi rfl) rfl c.b_isinstance boot_isinstance (dps_cons (dp (de_v (i := 0))) (dps_cons (dp (de_bltn rfl c.b_tuple boot_tuple rfl)) dps_nil)))) (de_and (dp (de_le (dp (de_len ⟨rfl, rfl, rfl⟩ c.b_len (dps_cons (dp (de_v (i := 0))) dps_nil))) (dp (de_gint c.i_MOST_WORDS)))) (de_one (de_callB (cr_all rfl) (cd_all rfl) rfl c.b_all boot_all (dps_cons (dp (de_fr (df_lc (own := [("one", 1)]) rfl sc_is_program.nd (di_any rfl (de_v (i := 0))) (blk_of (by kernel_rfl)) (fun _ _ _ _ _ => (pg_name (i := 1) sc_is_program.nd rfl (by first | exact .inl rfl | exact .inr rfl))) gt_n (fun _ _ _ _ _ => dts_nil) (fun _ _ _ _ _ => (de_call (k := 2) ⟨rfl, rfl, rfl⟩ o_is_word (hr.mono (by decide)) c.g_is_word c.k_is_word takesN0 (da_cons (de_v (i := 1)) da_nil)))))) dps_nil))))))), Fd.bindsN fun _ _ _ _ _ _ us hl => match us, hl with | [_], _ => rfl⟩
abbrev s_need_program : Stmt := top 36
def fb_need_program : SSem := (sIf (cNot (cVal (eFn 1 g_is_program (aCons (eVar 0) aNil)))) (sErr 1) sSkip)
def g_need_program : List D → List D → Res D := fun ds γ => bodyR (fb_need_program (startE 1 ds) γ)
theorem sc_need_program : FnScope ["program"] ["program"] (defScope s_need_program) := ⟨rfl, rfl, rfl, by decide +kernel, rfl, by decide +kernel, by decide +kernel⟩
theorem ok_need_program {P : Program} {w : World} {K : PySem.W.Frag} {mg : Str → Option Value} {base : Heap} {f : Addr} {fd : FuncData} (c : Fc K w mg) (o_is_program : Ok (CT P w K) mg base 3 1 (He.ga K "is_program") g_is_program) (Fd : FunD K "need_program" "need_program" (defArgs s_need_program) (defBody s_need_program) (defScope s_need_program) [] [] f fd) : Ok (CT P w K) mg base 4 1 f g_need_program := ⟨fd, ["program"], by
  refine fn_dl (fb := fb_need_program) (C := CT P w K) Fd sc_need_program ?_ (fun _ _ _ _ => rfl)
  rintro ⟨_, F0, φ0, H0⟩ cdv A outer s H E rfl hr tk hp
  have hu := hr.units
  exact (dss_one (ds_if (dt_not (dt_val (dp (de_call (k := 3) ⟨rfl, rfl, rfl⟩ o_is_program (hr.mono (by decide)) c.g_is_program c.k_is_program tk (da_cons (de_v (i := 0)) da_nil))))) (dss_one (ds_raiseC (c := 1) rfl tk c.e_InvalidProgram c.g_InvalidProgram)) dss_nil)), Fd.bindsN fun _ _ _ _ _ _ us hl => match us, hl with | [_], _ => rfl⟩
abbrev s_written : Stmt := top 25
def fb_written : SSem := (sSeq (sNew 2 (eLst (aLim 1000000 aNil)))
  (sSeq (sFor (lAny (eVar 0)) (gtN 3) (sSeq (sSet 4 (eCall dDict (aCons (eVar 3) aNil)))
  (sApp 2 (eTupK (aCons (eCall dTupK (aCons (eLc (lRng2 (aCons (eC (.int 1)) (aCons (eOp gAddA (eVar 1) (eC (.int 1))) aNil))) [5] (gtN 5) cYesS (eGetA (eVar 4) (eVar 5) (eC (.int 0)))) aNil)) (aCons (eSubA (eVar 0) (eVar 3)) aNil))))))
  (sRet (eCall dTupK (aCons (eCall dSortK (aCons (eLook 2) aNil)) aNil)))))
def g_written : List D → List D → Res D := fun ds γ => bodyR (fb_written (startE 6 ds) γ)
theorem sc_written : FnScope ["some", "need", "rows", "row", "powers", "depth"] ["some", "need"] (defScope s_written) := ⟨rfl, rfl, rfl, by decide +kernel, rfl, by decide +kernel, by decide +kernel⟩
theorem ok_written {P : Program} {w : World} {K : PySem.W.Frag} {mg : Str → Option Value} {base : Heap} {f : Addr} {fd : FuncData} (c : Fc K w mg) (Fd : FunD K "written" "written" (defArgs s_written) (defBody s_written) (defScope s_written) [] [] f fd) : Ok (CT P w K) mg base 1 2 f g_written := ⟨fd, ["some", "need"], by
  refine fn_dl (fb := fb_written) (C := CT P w K) Fd sc_written ?_ (fun _ _ _ _ => rfl)
  rintro ⟨_, F0, φ0, H0⟩ cdv A outer s H E rfl hr tk hp
  have hu := hr.units
  exact (dss_cons (ds_new (i := 2) sc_written.nd rfl (by first | exact .inl rfl | exact .inr rfl) (df_lst da_nil))
    (dss_cons (ds_for hp rfl (di_any rfl (de_v (i := 0))) (pg_name (i := 3) sc_written.nd rfl (by first | exact .inl rfl | exact .inr rfl)) gt_n (dss_cons (ds_set (i := 4) sc_written.nd rfl (by first | exact .inl rfl | exact .inr rfl) (de_fr (df_callT (call_dict ⟨rfl, rfl, rfl⟩ rfl hu) (cf_dict rfl) rfl c.b_dict boot_dict (dps_cons (dp (de_v (i := 3))) dps_nil))))
    (dss_one (ds_app (i := 2) rfl (by first | exact .inl rfl | exact .inr (.inl rfl)) (de_tupK (da_cons (de_callT call_tupB (cd_tupK rfl) rfl c.b_tuple boot_tuple (dps_cons (dp (de_fr (df_lc (own := [("depth", 5)]) rfl sc_written.nd (di_range2 rfl c.b_range (dps_cons (dp de_int) (dps_cons (dp (de_addA rfl (dp (de_v (i := 1))) (dp de_int))) dps_nil))) (blk_of (by kernel_rfl)) (fun _ _ _ _ _ => (pg_name (i := 5) sc_written.nd rfl (by first | exact .inl rfl | exact .inr rfl))) gt_n (fun _ _ _ _ _ => dts_nil) (fun _ _ _ _ _ => (de_getA ⟨rfl, rfl, rfl⟩ hu (dp (de_v (i := 4))) (de_v (i := 5)) de_int ⟨rfl, rfl, rfl, rfl⟩))))) dps_nil)) (da_cons (de_subA ⟨rfl, rfl, rfl⟩ hu (de_v (i := 0)) (de_v (i := 3))) da_nil)))))))
    (dss_one (ds_ret (de_callT call_tupB (cd_tupK rfl) rfl c.b_tuple boot_tuple (dps_cons (dp (de_callB (call_sortK rfl hu) cd_sortK rfl c.b_sorted boot_sorted (dps_cons (dp_v (i := 2)) dps_nil))) dps_nil)))))), Fd.bindsN fun _ _ _ _ _ _ us hl => match us, hl with | [_, _], _ => rfl⟩
abbrev s_Work_told : Stmt := (clsB (top 45)).getD 2 (.Pass ⟨0, 0, 0, 0⟩)
def fb_Work_told : SSem := (sRet (eTupK (aCons (eFld 0 0 (eVar 0)) (aCons (eCall dTupK (aCons (eLc (lAny (eFld 0 1 (eVar 0))) [1] (gtN 1) cYesS (eFn 2 g_written (aCons (eVar 1) (aCons (eFld 0 0 (eVar 0)) aNil)))) aNil)) aNil))))
def g_Work_told : List D → List D → Res D := fun ds γ => bodyR (fb_Work_told (startE 2 ds) γ)
theorem sc_Work_told : FnScope ["self", "row"] ["self"] (defScope s_Work_told) := ⟨rfl, rfl, rfl, by decide +kernel, rfl, by decide +kernel, by decide +kernel⟩
theorem ok_Work_told {P : Program} {w : World} {K : PySem.W.Frag} {mg : Str → Option Value} {base : Heap} {f : Addr} {fd : FuncData} (c : Fc K w mg) (o_written : Ok (CT P w K) mg base 1 2 (He.ga K "written") g_written) (Fd : FunD K "told" "Work.told" (defArgs s_Work_told) (defBody s_Work_told) (defScope s_Work_told) [] [] f fd) : Ok (CT P w K) mg base 2 1 f g_Work_told := ⟨fd, ["self"], by
  refine fn_dl (fb := fb_Work_told) (C := CT P w K) Fd sc_Work_told ?_ (fun _ _ _ _ => rfl)
  rintro ⟨_, F0, φ0, H0⟩ cdv A outer s H E rfl hr tk hp
  have hu := hr.units
  exact (dss_one (ds_ret (de_tupK (da_cons (de_fld (c := 0) (i := 0) (de_v (i := 0)) c.cl_Work c.na_Work_need rfl) (da_cons (de_callT call_tupB (cd_tupK rfl) rfl c.b_tuple boot_tuple (dps_cons (dp (de_fr (df_lc (own := [("row", 1)]) rfl sc_Work_told.nd (di_any rfl (de_fld (c := 0) (i := 1) (de_v (i := 0)) c.cl_Work c.na_Work_rows rfl)) (blk_of (by kernel_rfl)) (fun _ _ _ _ _ => (pg_name (i := 1) sc_Work_told.nd rfl (by first | exact .inl rfl | exact .inr rfl))) gt_n (fun _ _ _ _ _ => dts_nil) (fun _ _ _ _ _ => (de_call (k := 1) ⟨rfl, rfl, rfl⟩ o_written (hr.mono (by decide)) c.g_written c.k_written takesN0 (da_cons (de_v (i := 1)) (da_cons (de_fld (c := 0) (i := 0) (de_v (i := 0)) c.cl_Work c.na_Work_need rfl) da_nil))))))) dps_nil)) da_nil))))), Fd.bindsN fun _ _ _ _ _ _ us hl => match us, hl with | [_], _ => rfl⟩
abbrev s_Work___init__ : Stmt := (clsB (top 45)).getD 0 (.Pass ⟨0, 0, 0, 0⟩)
theorem sc_Work___init__ : FnScope ["self", "need", "rows"] ["self", "need", "rows"] (defScope s_Work___init__) := ⟨rfl, rfl, rfl, by decide +kernel, rfl, by decide +kernel, by decide +kernel⟩
theorem ok_Work___init__ {P : Program} {w : World} {K : PySem.W.Frag} {mg : Str → Option Value} {base : Heap} {f : Addr} {fd : FuncData} (c : Fc K w mg) (Fd : FunD K "__init__" "Work.__init__" (defArgs s_Work___init__) (defBody s_Work___init__) (defScope s_Work___init__) [] [] f fd) : OkI (CT P w K) mg base 1 f 0 "need" "rows" := ⟨fd, ["self", "need", "rows"],
  fn_init (P := P) (w := w) Fd sc_Work___init__ c.cl_Work c.na_Work_need c.na_Work_rows (by decide) (by first | exact .inl rfl | exact .inr (.inl rfl)) (by first | exact .inl rfl | exact .inr (.inl rfl)) (by first | exact .inl rfl | exact .inr (.inl rfl)) (by decide) (by decide) (by decide) (by decide) (by decide) (by decide) (fun _ _ => rfl) (fun _ _ => rfl), Fd.bindsN fun _ _ _ _ _ _ us hl => match us, hl with | [_, _, _], _ => rfl⟩
abbrev s_needed : Stmt := top 39
def fb_needed : SSem := (sRet (eIf (cVal (eCall dIsi (aCons (eVar 0) (aCons (eC (.raw (.ty "str"))) aNil)))) (eTab tab_NEEDS (eVar 0)) (eC (.int 0))))
def g_needed : List D → List D → Res D := fun ds γ => bodyR (fb_needed (startE 1 ds) γ)
theorem sc_needed : FnScope ["word"] ["word"] (defScope s_needed) := ⟨rfl, rfl, rfl, by decide +kernel, rfl, by decide +kernel, by decide +kernel⟩
theorem ok_needed {P : Program} {w : World} {K : PySem.W.Frag} {mg : Str → Option Value} {base : Heap} {f : Addr} {fd : FuncData} (c : Fc K w mg) (Fd : FunD K "needed" "needed" (defArgs s_needed) (defBody s_needed) (defScope s_needed) [] [] f fd) : Ok (CT P w K) mg base 1 1 f g_needed := ⟨fd, ["word"], by
  refine fn_dl (fb := fb_needed) (C := CT P w K) Fd sc_needed ?_ (fun _ _ _ _ => rfl)
  rintro ⟨_, F0, φ0, H0⟩ cdv A outer s H E rfl hr tk hp
  have hu := hr.units
  exact (dss_one (ds_ret (de_if (dt_val (dp (de_callB call_isi (cd_isi rfl) rfl c.b_isinstance boot_isinstance (dps_cons (dp (de_v (i := 0))) (dps_cons (dp (de_bltn rfl c.b_str boot_str rfl)) dps_nil))))) (de_tab c.tab_NEEDS rfl c.a_NEEDS (dp (de_v (i := 0)))) de_int))), Fd.bindsN fun _ _ _ _ _ _ us hl => match us, hl with | [_], _ => rfl⟩
abbrev s_laid : Stmt := top 40
def fb_laid : SSem := (sSeq (sIf (cCmp dEqN (eVar 0) (eC (.str "dup"))) (sRet (eLst (aLim 1000000 (aCons (eSubA (eVar 1) (eC (.int 0))) (aCons (eSubA (eVar 1) (eC (.int 0))) aNil))))) sSkip)
  (sSeq (sIf (cCmp dEqN (eVar 0) (eC (.str "drop"))) (sRet (eLst (aLim 1000000 aNil))) sSkip)
  (sSeq (sIf (cCmp dEqN (eVar 0) (eC (.str "swap"))) (sRet (eLst (aLim 1000000 (aCons (eSubA (eVar 1) (eC (.int 1))) (aCons (eSubA (eVar 1) (eC (.int 0))) aNil))))) sSkip)
  (sSeq (sIf (cCmp dEqN (eVar 0) (eC (.str "over"))) (sRet (eLst (aLim 1000000 (aCons (eSubA (eVar 1) (eC (.int 0))) (aCons (eSubA (eVar 1) (eC (.int 1))) (aCons (eSubA (eVar 1) (eC (.int 0))) aNil)))))) sSkip)
  (sSeq (sIf (cCmp dEqN (eVar 0) (eC (.str "rot"))) (sRet (eLst (aLim 1000000 (aCons (eSubA (eVar 1) (eC (.int 1))) (aCons (eSubA (eVar 1) (eC (.int 2))) (aCons (eSubA (eVar 1) (eC (.int 0))) aNil)))))) sSkip)
  (sSeq (sIf (cCmp dEqN (eVar 0) (eC (.str "nip"))) (sRet (eLst (aLim 1000000 (aCons (eSubA (eVar 1) (eC (.int 1))) aNil)))) sSkip)
  (sRet (eLst (aLim 1000000 (aCons (eSubA (eVar 1) (eC (.int 1))) (aCons (eSubA (eVar 1) (eC (.int 0))) (aCons (eSubA (eVar 1) (eC (.int 1))) aNil))))))))))))
def g_laid : List D → List D → Res D := fun ds γ => bodyR (fb_laid (startE 2 ds) γ)
theorem sc_laid : FnScope ["word", "some"] ["word", "some"] (defScope s_laid) := ⟨rfl, rfl, rfl, by decide +kernel, rfl, by decide +kernel, by decide +kernel⟩
theorem ok_laid {P : Program} {w : World} {K : PySem.W.Frag} {mg : Str → Option Value} {base : Heap} {f : Addr} {fd : FuncData} (c : Fc K w mg) (Fd : FunD K "laid" "laid" (defArgs s_laid) (defBody s_laid) (defScope s_laid) [] [] f fd) : Ok (CT P w K) mg base 1 2 f g_laid := ⟨fd, ["word", "some"], by
  refine fn_dl (fb := fb_laid) (C := CT P w K) Fd sc_laid ?_ (fun _ _ _ _ => rfl)
  rintro ⟨_, F0, φ0, H0⟩ cdv A outer s H E rfl hr tk hp
  have hu := hr.units
  exact (dss_cons (ds_if (dt_eqN ⟨rfl, rfl, rfl⟩ hu (dp (de_v (i := 0))) (dp de_str)) (dss_one (ds_ret (de_fr (df_lst (da_cons (de_subA ⟨rfl, rfl, rfl⟩ hu (de_v (i := 1)) de_int) (da_cons (de_subA ⟨rfl, rfl, rfl⟩ hu (de_v (i := 1)) de_int) da_nil)))))) dss_nil)
    (dss_cons (ds_if (dt_eqN ⟨rfl, rfl, rfl⟩ hu (dp (de_v (i := 0))) (dp de_str)) (dss_one (ds_ret (de_fr (df_lst da_nil)))) dss_nil)
    (dss_cons (ds_if (dt_eqN ⟨rfl, rfl, rfl⟩ hu (dp (de_v (i := 0))) (dp de_str)) (dss_one (ds_ret (de_fr (df_lst (da_cons (de_subA ⟨rfl, rfl, rfl⟩ hu (de_v (i := 1)) de_int) (da_cons (de_subA ⟨rfl, rfl, rfl⟩ hu (de_v (i := 1)) de_int) da_nil)))))) dss_nil)
    (dss_cons (ds_if (dt_eqN ⟨rfl, rfl, rfl⟩ hu (dp (de_v (i := 0))) (dp de_str)) (dss_one (ds_ret (de_fr (df_lst (da_cons (de_subA ⟨rfl, rfl, rfl⟩ hu (de_v (i := 1)) de_int) (da_cons (de_subA ⟨rfl, rfl, rfl⟩ hu (de_v (i := 1)) de_int) (da_cons (de_subA ⟨rfl, rfl, rfl⟩ hu (de_v (i := 1)) de_int) da_nil))))))) dss_nil)
    (dss_cons (ds_if (dt_eqN ⟨rfl, rfl, rfl⟩ hu (dp (de_v (i := 0))) (dp de_str)) (dss_one (ds_ret (de_fr (df_lst (da_cons (de_subA ⟨rfl, rfl, rfl⟩ hu (de_v (i := 1)) de_int) (da_cons (de_subA ⟨rfl, rfl, rfl⟩ hu (de_v (i := 1)) de_int) (da_cons (de_subA ⟨rfl, rfl, rfl⟩ hu (de_v (i := 1)) de_int) da_nil))))))) dss_nil)
    (dss_cons (ds_if (dt_eqN ⟨rfl, rfl, rfl⟩ hu (dp (de_v (i := 0))) (dp de_str)) (dss_one (ds_ret (de_fr (df_lst (da_cons (de_subA ⟨rfl, rfl, rfl⟩ hu (de_v (i := 1)) de_int) da_nil))))) dss_nil)
    (dss_one (ds_ret (de_fr (df_lst (da_cons (de_subA ⟨rfl, rfl, rfl⟩ hu (de_v (i := 1)) de_int) (da_cons (de_subA ⟨rfl, rfl, rfl⟩ hu (de_v (i := 1)) de_int) (da_cons (de_subA ⟨rfl, rfl, rfl⟩ hu (de_v (i := 1)) de_int) da_nil))))))))))))), Fd.bindsN fun _ _ _ _ _ _ us hl => match us, hl with | [_, _], _ => rfl⟩
abbrev s_cleaned : Stmt := top 19
def fb_cleaned : SSem := (sRet (eCall dDict (aCons (eLc (lAny (eVar 0)) [1] (gtN 1) (cCmp dNeN (eSubA (eVar 0) (eVar 1)) (eC (.int 0))) (eTup (aLim 1000000 (aCons (eVar 1) (aCons (eSubA (eVar 0) (eVar 1)) aNil))))) aNil)))
def g_cleaned : List D → List D → Res D := fun ds γ => bodyR (fb_cleaned (startE 2 ds) γ)
theorem sc_cleaned : FnScope ["some", "power"] ["some"] (defScope s_cleaned) := ⟨rfl, rfl, rfl, by decide +kernel, rfl, by decide +kernel, by decide +kernel⟩
theorem ok_cleaned {P : Program} {w : World} {K : PySem.W.Frag} {mg : Str → Option Value} {base : Heap} {f : Addr} {fd : FuncData} (c : Fc K w mg) (Fd : FunD K "cleaned" "cleaned" (defArgs s_cleaned) (defBody s_cleaned) (defScope s_cleaned) [] [] f fd) : Ok (CT P w K) mg base 1 1 f g_cleaned := ⟨fd, ["some"], by
  refine fn_dl (fb := fb_cleaned) (C := CT P w K) Fd sc_cleaned ?_ (fun _ _ _ _ => rfl)
  rintro ⟨_, F0, φ0, H0⟩ cdv A outer s H E rfl hr tk hp
  have hu := hr.units
  exact (dss_one (ds_ret (de_fr (df_callT (call_dict ⟨rfl, rfl, rfl⟩ rfl hu) (cf_dict rfl) rfl c.b_dict boot_dict (dps_cons (dp (de_fr (df_lc (own := [("power", 1)]) rfl sc_cleaned.nd (di_any rfl (de_v (i := 0))) (blk_of (by kernel_rfl)) (fun _ _ _ _ _ => (pg_name (i := 1) sc_cleaned.nd rfl (by first | exact .inl rfl | exact .inr rfl))) gt_n (fun _ _ _ _ _ => (dts_one (dt_neN ⟨rfl, rfl, rfl⟩ hu (dp (de_subA ⟨rfl, rfl, rfl⟩ hu (de_v (i := 0)) (de_v (i := 1)))) (dp de_int)))) (fun _ _ _ _ _ => (de_tup (da_cons (de_v (i := 1)) (da_cons (de_subA ⟨rfl, rfl, rfl⟩ hu (de_v (i := 0)) (de_v (i := 1))) da_nil))))))) dps_nil))))), Fd.bindsN fun _ _ _ _ _ _ us hl => match us, hl with | [_], _ => rfl⟩
abbrev s_checked : Stmt := top 23
def fb_checked : SSem := (sSeq (sSet 1 (eFn 1 g_cleaned (aCons (eVar 0) aNil)))
  (sSeq (sSet 2 (eLc (lAny (eVar 1)) [3] (gtN 3) cYesS (eCall dSum (aCons (eLc (lAny (eVar 3)) [4, 5] (gtP 4 5) cYesS (eVar 5)) aNil))))
  (sSeq (sIf (cOr (cCmp bGt (eCall dLenA (aCons (eVar 1) aNil)) (eC (.int 200))) (cVal (eCall dAny (aCons (eLc (lAny (eVar 2)) [6] (gtN 6) cYesS (eCmp bGt (eVar 6) (eC (.int 16)))) aNil)))) (sErr 9) sSkip)
  (sSeq (sIf (cVal (eCall dAny (aCons (eLc (lAny (eVar 1)) [3] (gtN 3) cYesS (eCmp bGt (eCall dAbs (aCons (eSubA (eVar 1) (eVar 3)) aNil)) (eC (.int 1000000000000000000000000000000000000000000000000000000000000)))) aNil))) (sErr 9) sSkip)
  (sRet (eVar 1))))))
def g_checked : List D → List D → Res D := fun ds γ => bodyR (fb_checked (startE 7 ds) γ)
theorem sc_checked : FnScope ["some", "found", "degrees", "row", "depth", "power", "one"] ["some"] (defScope s_checked) := ⟨rfl, rfl, rfl, by decide +kernel, rfl, by decide +kernel, by decide +kernel⟩
theorem ok_checked {P : Program} {w : World} {K : PySem.W.Frag} {mg : Str → Option Value} {base : Heap} {f : Addr} {fd : FuncData} (c : Fc K w mg) (o_cleaned : Ok (CT P w K) mg base 1 1 (He.ga K "cleaned") g_cleaned) (Fd : FunD K "checked" "checked" (defArgs s_checked) (defBody s_checked) (defScope s_checked) [] [] f fd) : Ok (CT P w K) mg base 2 1 f g_checked := ⟨fd, ["some"], by
  refine fn_dl (fb := fb_checked) (C := CT P w K) Fd sc_checked ?_ (fun _ _ _ _ => rfl)
  rintro ⟨_, F0, φ0, H0⟩ cdv A outer s H E rfl hr tk hp
  have hu := hr.units
  exact (dss_cons (ds_set (i := 1) sc_checked.nd rfl (by first | exact .inl rfl | exact .inr rfl) (de_call (k := 1) ⟨rfl, rfl, rfl⟩ o_cleaned (hr.mono (by decide)) c.g_cleaned c.k_cleaned tk (da_cons (de_v (i := 0)) da_nil)))
    (dss_cons (ds_setLc (own := [("row", 3)]) (i := 2) rfl sc_checked.nd rfl rfl (by rfl) (di_any rfl (de_v (i := 1))) (blk_of (by kernel_rfl)) (fun _ _ _ _ _ => (pg_name (i := 3) sc_checked.nd rfl (by first | exact .inl rfl | exact .inr rfl))) gt_n (fun _ _ _ _ _ => dts_nil) (fun _ _ _ _ _ => (de_callB (cr_sum rfl) (cd_sum rfl) rfl c.b_sum boot_sum (dps_cons (dp (de_fr (df_lc (own := [("depth", 4), ("power", 5)]) rfl sc_checked.nd (di_any rfl (de_v (i := 3))) (blk_of (by kernel_rfl)) (fun _ _ _ _ _ => (pg_tl rfl (pgs_cons (pg_name (i := 4) sc_checked.nd rfl (by first | exact .inl rfl | exact .inr rfl)) (pgs_cons (pg_name (i := 5) sc_checked.nd rfl (by first | exact .inl rfl | exact .inr rfl)) pgs_nil)))) (gt_p rfl) (fun _ _ _ _ _ => dts_nil) (fun _ _ _ _ _ => (de_v (i := 5)))))) dps_nil))))
    (dss_cons (ds_if (PW.pt (dw_or (dt_gt (dp (de_len ⟨rfl, rfl, rfl⟩ c.b_len (dps_cons (dp (de_v (i := 1))) dps_nil))) (dp (de_gint c.i_MOST_TERMS))) (dw_or1 (dt_val (dp (de_callB (cr_any rfl) (cd_any rfl) rfl c.b_any boot_any (dps_cons (dp (de_fr (df_lc (own := [("one", 6)]) rfl sc_checked.nd (di_any rfl (de_v (i := 2))) (blk_of (by kernel_rfl)) (fun _ _ _ _ _ => (pg_name (i := 6) sc_checked.nd rfl (by first | exact .inl rfl | exact .inr rfl))) gt_n (fun _ _ _ _ _ => dts_nil) (fun _ _ _ _ _ => (de_gt (dp (de_v (i := 6))) (dp (de_gint c.i_MOST_DEGREE))))))) dps_nil))))))) (dss_one (ds_raiseC (c := 9) rfl tk c.e_TooMany c.g_TooMany)) dss_nil)
    (dss_cons (ds_if (dt_val (dp (de_callB (cr_any rfl) (cd_any rfl) rfl c.b_any boot_any (dps_cons (dp (de_fr (df_lc (own := [("row", 3)]) rfl sc_checked.nd (di_any rfl (de_v (i := 1))) (blk_of (by kernel_rfl)) (fun _ _ _ _ _ => (pg_name (i := 3) sc_checked.nd rfl (by first | exact .inl rfl | exact .inr rfl))) gt_n (fun _ _ _ _ _ => dts_nil) (fun _ _ _ _ _ => (de_gt (dp (de_callB (call_abs) cd_abs rfl c.b_abs boot_abs (dps_cons (dp (de_subA ⟨rfl, rfl, rfl⟩ hu (de_v (i := 1)) (de_v (i := 3)))) dps_nil))) (dp (de_gint c.i_MOST_NUMBER_polynomials))))))) dps_nil)))) (dss_one (ds_raiseC (c := 9) rfl tk c.e_TooMany c.g_TooMany)) dss_nil)
    (dss_one (ds_ret (de_v (i := 1)))))))), Fd.bindsN fun _ _ _ _ _ _ us hl => match us, hl with | [_], _ => rfl⟩
abbrev s_added : Stmt := top 20
def fb_added : SSem := (sSeq (sNew 3 (eCall dDict (aCons (eVar 0) aNil)))
  (sSeq (sFor (lAny (eVar 1)) (gtN 4) (sDput 3 (eVar 4) (eOp gAddA (eGetA (eLook 3) (eVar 4) (eC (.int 0))) (eOp gMulA (eVar 2) (eSubA (eVar 1) (eVar 4))))))
  (sGive 3 (sRet (eFn 1 g_checked (aCons (eVar 3) aNil))))))
def g_added : List D → List D → Res D := fun ds γ => bodyR (fb_added (startE 5 ds) γ)
theorem sc_added : FnScope ["one", "other", "factor", "found", "power"] ["one", "other", "factor"] (defScope s_added) := ⟨rfl, rfl, rfl, by decide +kernel, rfl, by decide +kernel, by decide +kernel⟩
theorem ok_added {P : Program} {w : World} {K : PySem.W.Frag} {mg : Str → Option Value} {base : Heap} {f : Addr} {fd : FuncData} (c : Fc K w mg) (o_checked : Ok (CT P w K) mg base 2 1 (He.ga K "checked") g_checked) (Fd : FunD K "added" "added" (defArgs s_added) (defBody s_added) (defScope s_added) [] [] f fd) : Ok (CT P w K) mg base 3 3 f g_added := ⟨fd, ["one", "other", "factor"], by
  refine fn_dl (fb := fb_added) (C := CT P w K) Fd sc_added ?_ (fun _ _ _ _ => rfl)
  rintro ⟨_, F0, φ0, H0⟩ cdv A outer s H E rfl hr tk hp
  have hu := hr.units
  exact (dss_cons (ds_new (i := 3) sc_added.nd rfl (by first | exact .inl rfl | exact .inr rfl) (df_callT (call_dict ⟨rfl, rfl, rfl⟩ rfl hu) (cf_dict rfl) rfl c.b_dict boot_dict (dps_cons (dp (de_v (i := 0))) dps_nil)))
    (dss_cons (ds_for hp rfl (di_any rfl (de_v (i := 1))) (pg_name (i := 4) sc_added.nd rfl (by first | exact .inl rfl | exact .inr rfl)) gt_n (dss_one (ds_dput (i := 3) ⟨rfl, rfl, rfl⟩ hu rfl (by first | exact .inl rfl | exact .inr (.inl rfl)) (de_v (i := 4)) (de_addA rfl (dp (de_getA ⟨rfl, rfl, rfl⟩ hu (dp_v (i := 3)) (de_v (i := 4)) de_int ⟨rfl, rfl, rfl, rfl⟩)) (dp (de_mulA rfl (dp (de_v (i := 2))) (dp (de_subA ⟨rfl, rfl, rfl⟩ hu (de_v (i := 1)) (de_v (i := 4))))))))))
    (dss_one (ds_give 3 (ds_ret (de_call (k := 2) ⟨rfl, rfl, rfl⟩ o_checked (hr.mono (by decide)) c.g_checked c.k_checked tk (da_cons (de_v (i := 3)) da_nil))))))), Fd.bindsN fun _ _ _ _ _ _ us hl => match us, hl with | [_, _, _], _ => rfl⟩
abbrev s_constant : Stmt := top 17
def fb_constant : SSem := (sRet (eIf (cCmp dNeN (eVar 0) (eC (.int 0))) (eDisp1 (eTupK aNil) (eVar 0)) (eC (.dic []))))
def g_constant : List D → List D → Res D := fun ds γ => bodyR (fb_constant (startE 1 ds) γ)
theorem sc_constant : FnScope ["number"] ["number"] (defScope s_constant) := ⟨rfl, rfl, rfl, by decide +kernel, rfl, by decide +kernel, by decide +kernel⟩
theorem ok_constant {P : Program} {w : World} {K : PySem.W.Frag} {mg : Str → Option Value} {base : Heap} {f : Addr} {fd : FuncData} (c : Fc K w mg) (Fd : FunD K "constant" "constant" (defArgs s_constant) (defBody s_constant) (defScope s_constant) [] [] f fd) : Ok (CT P w K) mg base 1 1 f g_constant := ⟨fd, ["number"], by
  refine fn_dl (fb := fb_constant) (C := CT P w K) Fd sc_constant ?_ (fun _ _ _ _ => rfl)
  rintro ⟨_, F0, φ0, H0⟩ cdv A outer s H E rfl hr tk hp
  have hu := hr.units
  exact (dss_one (ds_ret (de_if (dt_neN ⟨rfl, rfl, rfl⟩ hu (dp (de_v (i := 0))) (dp de_int)) (de_fr (df_disp1 ⟨rfl, rfl, rfl⟩ hu (de_tupK da_nil) (de_v (i := 0)))) (de_fr df_dnew)))), Fd.bindsN fun _ _ _ _ _ _ us hl => match us, hl with | [_], _ => rfl⟩
abbrev s_joint : Stmt := top 21
def fb_joint : SSem := (sSeq (sNew 2 (eCall dDict (aCons (eVar 0) aNil)))
  (sSeq (sFor (lAny (eVar 1)) (gtP 3 4) (sPutK 2 (eVar 3) (eOp gAddA (eGetA (eLook 2) (eVar 3) (eC (.int 0))) (eVar 4))))
  (sRet (eCall dTupK (aCons (eLc (lAny (eCall dSorted (aCons (eCall dLstA (aCons (eLook 2) aNil)) aNil))) [3] (gtN 3) cYesS (eTupK (aCons (eVar 3) (aCons (eSubP (eLook 2) (eVar 3)) aNil)))) aNil)))))
def g_joint : List D → List D → Res D := fun ds γ => bodyR (fb_joint (startE 5 ds) γ)
theorem sc_joint : FnScope ["one", "other", "powers", "depth", "power"] ["one", "other"] (defScope s_joint) := ⟨rfl, rfl, rfl, by decide +kernel, rfl, by decide +kernel, by decide +kernel⟩
theorem ok_joint {P : Program} {w : World} {K : PySem.W.Frag} {mg : Str → Option Value} {base : Heap} {f : Addr} {fd : FuncData} (c : Fc K w mg) (Fd : FunD K "joint" "joint" (defArgs s_joint) (defBody s_joint) (defScope s_joint) [] [] f fd) : Ok (CT P w K) mg base 1 2 f g_joint := ⟨fd, ["one", "other"], by
  refine fn_dl (fb := fb_joint) (C := CT P w K) Fd sc_joint ?_ (fun _ _ _ _ => rfl)
  rintro ⟨_, F0, φ0, H0⟩ cdv A outer s H E rfl hr tk hp
  have hu := hr.units
  exact (dss_cons (ds_new (i := 2) sc_joint.nd rfl (by first | exact .inl rfl | exact .inr rfl) (df_callT (call_dict ⟨rfl, rfl, rfl⟩ rfl hu) (cf_dict rfl) rfl c.b_dict boot_dict (dps_cons (dp (de_v (i := 0))) dps_nil)))
    (dss_cons (ds_for hp rfl (di_any rfl (de_v (i := 1))) (pg_tl rfl (pgs_cons (pg_name (i := 3) sc_joint.nd rfl (by first | exact .inl rfl | exact .inr rfl)) (pgs_cons (pg_name (i := 4) sc_joint.nd rfl (by first | exact .inl rfl | exact .inr rfl)) pgs_nil))) (gt_p rfl) (dss_one (ds_putK (i := 2) hu rfl (by first | exact .inl rfl | exact .inr (.inl rfl)) (de_v (i := 3)) (de_addA rfl (dp (de_getA ⟨rfl, rfl, rfl⟩ hu (dp_v (i := 2)) (de_v (i := 3)) de_int ⟨rfl, rfl, rfl, rfl⟩)) (dp (de_v (i := 4)))))))
    (dss_one (ds_ret (de_callT call_tupB (cd_tupK rfl) rfl c.b_tuple boot_tuple (dps_cons (dp (de_fr (df_lc (own := [("depth", 3)]) rfl sc_joint.nd (di_any rfl (de_callB (call_sortD rfl hu) cd_sorted rfl c.b_sorted boot_sorted (dps_cons (dp (de_list ⟨rfl, rfl, rfl⟩ rfl c.b_list (dps_cons (dp_v (i := 2)) dps_nil))) dps_nil))) (blk_of (by kernel_rfl)) (fun _ _ _ _ _ => (pg_name (i := 3) sc_joint.nd rfl (by first | exact .inl rfl | exact .inr rfl))) gt_n (fun _ _ _ _ _ => dts_nil) (fun _ _ _ _ _ => (de_tupK (da_cons (de_v (i := 3)) (da_cons (de_subP ⟨rfl, rfl, rfl⟩ hu (dp_v (i := 2)) (de_v (i := 3))) da_nil))))))) dps_nil)))))), Fd.bindsN fun _ _ _ _ _ _ us hl => match us, hl with | [_, _], _ => rfl⟩
abbrev s_product : Stmt := top 22
def fb_product : SSem := (sSeq (sNew 2 (eC (.dic [])))
  (sSeq (sFor (lAny (eVar 0)) (gtN 3) (sFor (lAny (eVar 1)) (gtN 4) (sSeq (sSet 5 (eFn 2 g_joint (aCons (eVar 3) (aCons (eVar 4) aNil))))
  (sDput 2 (eVar 5) (eOp gAddA (eGetA (eLook 2) (eVar 5) (eC (.int 0))) (eOp gMulA (eSubA (eVar 0) (eVar 3)) (eSubA (eVar 1) (eVar 4))))))))
  (sGive 2 (sRet (eFn 1 g_checked (aCons (eVar 2) aNil))))))
def g_product : List D → List D → Res D := fun ds γ => bodyR (fb_product (startE 6 ds) γ)
theorem sc_product : FnScope ["one", "other", "found", "a", "b", "power"] ["one", "other"] (defScope s_product) := ⟨rfl, rfl, rfl, by decide +kernel, rfl, by decide +kernel, by decide +kernel⟩
theorem ok_product {P : Program} {w : World} {K : PySem.W.Frag} {mg : Str → Option Value} {base : Heap} {f : Addr} {fd : FuncData} (c : Fc K w mg) (o_checked : Ok (CT P w K) mg base 2 1 (He.ga K "checked") g_checked) (o_joint : Ok (CT P w K) mg base 1 2 (He.ga K "joint") g_joint) (Fd : FunD K "product" "product" (defArgs s_product) (defBody s_product) (defScope s_product) [] [] f fd) : Ok (CT P w K) mg base 3 2 f g_product := ⟨fd, ["one", "other"], by
  refine fn_dl (fb := fb_product) (C := CT P w K) Fd sc_product ?_ (fun _ _ _ _ => rfl)
  rintro ⟨_, F0, φ0, H0⟩ cdv A outer s H E rfl hr tk hp
  have hu := hr.units
  exact (dss_cons (ds_new (i := 2) sc_product.nd rfl (by first | exact .inl rfl | exact .inr rfl) df_dnew)
    (dss_cons (ds_for hp rfl (di_any rfl (de_v (i := 0))) (pg_name (i := 3) sc_product.nd rfl (by first | exact .inl rfl | exact .inr rfl)) gt_n (dss_one (ds_for hp rfl (di_any rfl (de_v (i := 1))) (pg_name (i := 4) sc_product.nd rfl (by first | exact .inl rfl | exact .inr rfl)) gt_n (dss_cons (ds_set (i := 5) sc_product.nd rfl (by first | exact .inl rfl | exact .inr rfl) (de_call (k := 1) ⟨rfl, rfl, rfl⟩ o_joint (hr.mono (by decide)) c.g_joint c.k_joint tk (da_cons (de_v (i := 3)) (da_cons (de_v (i := 4)) da_nil))))
    (dss_one (ds_dput (i := 2) ⟨rfl, rfl, rfl⟩ hu rfl (by first | exact .inl rfl | exact .inr (.inl rfl)) (de_v (i := 5)) (de_addA rfl (dp (de_getA ⟨rfl, rfl, rfl⟩ hu (dp_v (i := 2)) (de_v (i := 5)) de_int ⟨rfl, rfl, rfl, rfl⟩)) (dp (de_mulA rfl (dp (de_subA ⟨rfl, rfl, rfl⟩ hu (de_v (i := 0)) (de_v (i := 3)))) (dp (de_subA ⟨rfl, rfl, rfl⟩ hu (de_v (i := 1)) (de_v (i := 4)))))))))))))
    (dss_one (ds_give 2 (ds_ret (de_call (k := 2) ⟨rfl, rfl, rfl⟩ o_checked (hr.mono (by decide)) c.g_checked c.k_checked tk (da_cons (de_v (i := 2)) da_nil))))))), Fd.bindsN fun _ _ _ _ _ _ us hl => match us, hl with | [_, _], _ => rfl⟩
abbrev s_led : Stmt := top 47
def fb_led : SSem := (sSeq (sIf (cNot (cVal (eCall dIsi (aCons (eVar 0) (aCons (eC (.raw (.ty "str"))) aNil))))) (sRet (eLst (aLim 1000000 (aCons (eFn 1 g_constant (aCons (eVar 0) aNil)) aNil)))) sSkip)
  (sSeq (sIf (cCmp dInA (eVar 0) (eC (.tup (t_SHUFFLES.map D.str)))) (sRet (eFn 2 g_laid (aCons (eVar 0) (aCons (eVar 1) aNil)))) sSkip)
  (sSeq (sIf (cCmp dEqN (eVar 0) (eC (.str "neg"))) (sRet (eLst (aLim 1000000 (aCons (eFn 3 g_added (aCons (eC (.dic [])) (aCons (eSubA (eVar 1) (eC (.int 0))) (aCons (eNeg (eC (.int 1))) aNil)))) aNil)))) sSkip)
  (sSeq (sIf (cCmp dEqN (eVar 0) (eC (.str "mul"))) (sRet (eLst (aLim 1000000 (aCons (eFn 2 g_product (aCons (eSubA (eVar 1) (eC (.int 0))) (aCons (eSubA (eVar 1) (eC (.int 1))) aNil))) aNil)))) sSkip)
  (sRet (eLst (aLim 1000000 (aCons (eFn 3 g_added (aCons (eSubA (eVar 1) (eC (.int 0))) (aCons (eSubA (eVar 1) (eC (.int 1))) (aCons (eIf (cCmp dEqN (eVar 0) (eC (.str "add"))) (eC (.int 1)) (eNeg (eC (.int 1)))) aNil)))) aNil))))))))
def g_led : List D → List D → Res D := fun ds γ => bodyR (fb_led (startE 2 ds) γ)
theorem sc_led : FnScope ["word", "some"] ["word", "some"] (defScope s_led) := ⟨rfl, rfl, rfl, by decide +kernel, rfl, by decide +kernel, by decide +kernel⟩
theorem ok_led {P : Program} {w : World} {K : PySem.W.Frag} {mg : Str → Option Value} {base : Heap} {f : Addr} {fd : FuncData} (c : Fc K w mg) (o_added : Ok (CT P w K) mg base 3 3 (He.ga K "added") g_added) (o_constant : Ok (CT P w K) mg base 1 1 (He.ga K "constant") g_constant) (o_laid : Ok (CT P w K) mg base 1 2 (He.ga K "laid") g_laid) (o_product : Ok (CT P w K) mg base 3 2 (He.ga K "product") g_product) (Fd : FunD K "led" "led" (defArgs s_led) (defBody s_led) (defScope s_led) [] [] f fd) : Ok (CT P w K) mg base 4 2 f g_led := ⟨fd, ["word", "some"], by
  refine fn_dl (fb := fb_led) (C := CT P w K) Fd sc_led ?_ (fun _ _ _ _ => rfl)
  rintro ⟨_, F0, φ0, H0⟩ cdv A outer s H E rfl hr tk hp
  have hu := hr.units
  exact (dss_cons (ds_if (dt_not (dt_val (dp (de_callB call_isi (cd_isi rfl) rfl c.b_isinstance boot_isinstance (dps_cons (dp (de_v (i := 0))) (dps_cons (dp (de_bltn rfl c.b_str boot_str rfl)) dps_nil)))))) (dss_one (ds_ret (de_fr (df_lst (da_cons (de_call (k := 1) ⟨rfl, rfl, rfl⟩ o_constant (hr.mono (by decide)) c.g_constant c.k_constant tk (da_cons (de_v (i := 0)) da_nil)) da_nil))))) dss_nil)
    (dss_cons (ds_if (dt_inA ⟨rfl, rfl, rfl⟩ hu (dp (de_v (i := 0))) (dp (de_gtup ⟨rfl, rfl, rfl⟩ c.a_SHUFFLES c.t_SHUFFLES))) (dss_one (ds_ret (de_call (k := 1) ⟨rfl, rfl, rfl⟩ o_laid (hr.mono (by decide)) c.g_laid c.k_laid tk (da_cons (de_v (i := 0)) (da_cons (de_v (i := 1)) da_nil))))) dss_nil)
    (dss_cons (ds_if (dt_eqN ⟨rfl, rfl, rfl⟩ hu (dp (de_v (i := 0))) (dp de_str)) (dss_one (ds_ret (de_fr (df_lst (da_cons (de_call (k := 3) ⟨rfl, rfl, rfl⟩ o_added (hr.mono (by decide)) c.g_added c.k_added tk (da_cons (de_fr df_dnew) (da_cons (de_subA ⟨rfl, rfl, rfl⟩ hu (de_v (i := 1)) de_int) (da_cons (de_neg (dp de_int)) da_nil)))) da_nil))))) dss_nil)
    (dss_cons (ds_if (dt_eqN ⟨rfl, rfl, rfl⟩ hu (dp (de_v (i := 0))) (dp de_str)) (dss_one (ds_ret (de_fr (df_lst (da_cons (de_call (k := 3) ⟨rfl, rfl, rfl⟩ o_product (hr.mono (by decide)) c.g_product c.k_product tk (da_cons (de_subA ⟨rfl, rfl, rfl⟩ hu (de_v (i := 1)) de_int) (da_cons (de_subA ⟨rfl, rfl, rfl⟩ hu (de_v (i := 1)) de_int) da_nil))) da_nil))))) dss_nil)
    (dss_one (ds_ret (de_fr (df_lst (da_cons (de_call (k := 3) ⟨rfl, rfl, rfl⟩ o_added (hr.mono (by decide)) c.g_added c.k_added tk (da_cons (de_subA ⟨rfl, rfl, rfl⟩ hu (de_v (i := 1)) de_int) (da_cons (de_subA ⟨rfl, rfl, rfl⟩ hu (de_v (i := 1)) de_int) (da_cons (de_if (dt_eqN ⟨rfl, rfl, rfl⟩ hu (dp (de_v (i := 0))) (dp de_str)) de_int (de_neg (dp de_int))) da_nil)))) da_nil))))))))), Fd.bindsN fun _ _ _ _ _ _ us hl => match us, hl with | [_, _], _ => rfl⟩
abbrev s_unknown : Stmt := top 18
def fb_unknown : SSem := (sRet (eDisp1 (eTupK (aCons (eTupK (aCons (eVar 0) (aCons (eC (.int 1)) aNil))) aNil)) (eC (.int 1))))
def g_unknown : List D → List D → Res D := fun ds γ => bodyR (fb_unknown (startE 1 ds) γ)
theorem sc_unknown : FnScope ["depth"] ["depth"] (defScope s_unknown) := ⟨rfl, rfl, rfl, by decide +kernel, rfl, by decide +kernel, by decide +kernel⟩
theorem ok_unknown {P : Program} {w : World} {K : PySem.W.Frag} {mg : Str → Option Value} {base : Heap} {f : Addr} {fd : FuncData} (c : Fc K w mg) (Fd : FunD K "unknown" "unknown" (defArgs s_unknown) (defBody s_unknown) (defScope s_unknown) [] [] f fd) : Ok (CT P w K) mg base 1 1 f g_unknown := ⟨fd, ["depth"], by
  refine fn_dl (fb := fb_unknown) (C := CT P w K) Fd sc_unknown ?_ (fun _ _ _ _ => rfl)
  rintro ⟨_, F0, φ0, H0⟩ cdv A outer s H E rfl hr tk hp
  have hu := hr.units
  exact (dss_one (ds_ret (de_fr (df_disp1 ⟨rfl, rfl, rfl⟩ hu (de_tupK (da_cons (de_tupK (da_cons (de_v (i := 0)) (da_cons de_int da_nil))) da_nil)) de_int)))), Fd.bindsN fun _ _ _ _ _ _ us hl => match us, hl with | [_], _ => rfl⟩
abbrev s_Work_behind : Stmt := (clsB (top 45)).getD 1 (.Pass ⟨0, 0, 0, 0⟩)
def fb_Work_behind : SSem := (sSeq (sPar 3 4 (eFld 0 0 (eVar 0)) (eCall dLstA (aCons (eFld 0 1 (eVar 0)) aNil)))
  (sSeq (sSet 2 (eFn 1 g_needed (aCons (eVar 1) aNil)))
  (sSeq (sWhile (cCmp bLt (eCall dLenA (aCons (eVar 4) aNil)) (eVar 2)) (sSeq (sSet 3 (eOp gAddA (eVar 3) (eC (.int 1))))
  (sSet 4 (eOp gAddA (eLst (aLim 1000000 (aCons (eFn 1 g_unknown (aCons (eVar 3) aNil)) aNil))) (eVar 4)))) 64)
  (sSeq (sPar 5 6 (eSl (eVar 4) oNone (oSome (eOp gSubI (eCall dLenA (aCons (eVar 4) aNil)) (eVar 2)))) (eSl (eVar 4) (oSome (eOp gSubI (eCall dLenA (aCons (eVar 4) aNil)) (eVar 2))) oNone))
  (sRet (eMake 0 (aCons (eVar 3) (aCons (eOp gAddA (eVar 5) (eFn 2 g_led (aCons (eVar 1) (aCons (eVar 6) aNil)))) aNil))))))))
def g_Work_behind : List D → List D → Res D := fun ds γ => bodyR (fb_Work_behind (startE 7 ds) γ)
theorem sc_Work_behind : FnScope ["self", "word", "many", "need", "rows", "rest", "some"] ["self", "word"] (defScope s_Work_behind) := ⟨rfl, rfl, rfl, by decide +kernel, rfl, by decide +kernel, by decide +kernel⟩
theorem ok_Work_behind {P : Program} {w : World} {K : PySem.W.Frag} {mg : Str → Option Value} {base : Heap} {f : Addr} {fd : FuncData} (c : Fc K w mg) (o_Work___init__ : OkI (CT P w K) mg base 1 (He.ma K (He.ga K "Work") "__init__") 0 "need" "rows") (o_led : Ok (CT P w K) mg base 4 2 (He.ga K "led") g_led) (o_needed : Ok (CT P w K) mg base 1 1 (He.ga K "needed") g_needed) (o_unknown : Ok (CT P w K) mg base 1 1 (He.ga K "unknown") g_unknown) (Fd : FunD K "behind" "Work.behind" (defArgs s_Work_behind) (defBody s_Work_behind) (defScope s_Work_behind) [] [] f fd) : Ok (CT P w K) mg base 5 2 f g_Work_behind := ⟨fd, ["self", "word"], by
  refine fn_dl (fb := fb_Work_behind) (C := CT P w K) Fd sc_Work_behind ?_ (fun _ _ _ _ => rfl)
  rintro ⟨_, F0, φ0, H0⟩ cdv A outer s H E rfl hr tk hp
  have hu := hr.units
  exact (dss_cons (ds_par (i := 3) (j := 4) rfl sc_Work_behind.nd rfl rfl (by decide) rfl rfl (de_fld (c := 0) (i := 0) (de_v (i := 0)) c.cl_Work c.na_Work_need rfl) (de_list ⟨rfl, rfl, rfl⟩ rfl c.b_list (dps_cons (dp (de_fld (c := 0) (i := 1) (de_v (i := 0)) c.cl_Work c.na_Work_rows rfl)) dps_nil)))
    (dss_cons (ds_set (i := 2) sc_Work_behind.nd rfl (by first | exact .inl rfl | exact .inr rfl) (de_call (k := 1) ⟨rfl, rfl, rfl⟩ o_needed (hr.mono (by decide)) c.g_needed c.k_needed tk (da_cons (de_v (i := 1)) da_nil)))
    (dss_cons (ds_while 64 hp (dt_lt (dp (de_len ⟨rfl, rfl, rfl⟩ c.b_len (dps_cons (dp (de_v (i := 4))) dps_nil))) (dp (de_v (i := 2)))) (dss_cons (ds_set (i := 3) sc_Work_behind.nd rfl (by first | exact .inl rfl | exact .inr rfl) (de_addA rfl (dp (de_v (i := 3))) (dp de_int)))
    (dss_one (ds_set (i := 4) sc_Work_behind.nd rfl (by first | exact .inl rfl | exact .inr rfl) (de_addA rfl (dp (de_fr (df_lst (da_cons (de_call (k := 1) ⟨rfl, rfl, rfl⟩ o_unknown (hr.mono (by decide)) c.g_unknown c.k_unknown tk (da_cons (de_v (i := 3)) da_nil)) da_nil)))) (dp (de_v (i := 4))))))))
    (dss_cons (ds_par (i := 5) (j := 6) rfl sc_Work_behind.nd rfl rfl (by decide) rfl rfl (de_sl rfl (dp (de_v (i := 4))) do_none (do_some (dp (de_subI (dp (de_len ⟨rfl, rfl, rfl⟩ c.b_len (dps_cons (dp (de_v (i := 4))) dps_nil))) (dp (de_v (i := 2))))))) (de_sl rfl (dp (de_v (i := 4))) (do_some (dp (de_subI (dp (de_len ⟨rfl, rfl, rfl⟩ c.b_len (dps_cons (dp (de_v (i := 4))) dps_nil))) (dp (de_v (i := 2)))))) do_none))
    (dss_one (ds_ret (de_new (c := 0) (k := 1) ⟨rfl, rfl, rfl⟩ c.mk_Work o_Work___init__ rfl (hr.mono (by decide)) c.g_Work (da_cons (de_v (i := 3)) (da_cons (de_addA rfl (dp (de_v (i := 5))) (dp (de_call (k := 4) ⟨rfl, rfl, rfl⟩ o_led (hr.mono (by decide)) c.g_led c.k_led tk (da_cons (de_v (i := 1)) (da_cons (de_v (i := 6)) da_nil))))) da_nil))))))))), Fd.bindsN fun _ _ _ _ _ _ us hl => match us, hl with | [_, _], _ => rfl⟩
abbrev s_work_of : Stmt := top 48
def fb_work_of : SSem := (sSeq (sSet 1 (eMake 0 (aCons (eC (.int 0)) (aCons (eLst (aLim 1000000 aNil)) aNil))))
  (sSeq (sFor (lAny (eVar 0)) (gtN 2) (sSet 1 (eMeth 0 2 g_Work_behind (eVar 1) (aCons (eVar 2) aNil))))
  (sRet (eVar 1))))
def g_work_of : List D → List D → Res D := fun ds γ => bodyR (fb_work_of (startE 3 ds) γ)
theorem sc_work_of : FnScope ["program", "found", "word"] ["program"] (defScope s_work_of) := ⟨rfl, rfl, rfl, by decide +kernel, rfl, by decide +kernel, by decide +kernel⟩
theorem ok_work_of {P : Program} {w : World} {K : PySem.W.Frag} {mg : Str → Option Value} {base : Heap} {f : Addr} {fd : FuncData} (c : Fc K w mg) (o_Work___init__ : OkI (CT P w K) mg base 1 (He.ma K (He.ga K "Work") "__init__") 0 "need" "rows") (o_Work_behind : Ok (CT P w K) mg base 5 2 (He.ma K (He.ga K "Work") "behind") g_Work_behind) (Fd : FunD K "work_of" "work_of" (defArgs s_work_of) (defBody s_work_of) (defScope s_work_of) [] [] f fd) : Ok (CT P w K) mg base 6 1 f g_work_of := ⟨fd, ["program"], by
  refine fn_dl (fb := fb_work_of) (C := CT P w K) Fd sc_work_of ?_ (fun _ _ _ _ => rfl)
  rintro ⟨_, F0, φ0, H0⟩ cdv A outer s H E rfl hr tk hp
  have hu := hr.units
  exact (dss_cons (ds_set (i := 1) sc_work_of.nd rfl (by first | exact .inl rfl | exact .inr rfl) (de_new (c := 0) (k := 1) ⟨rfl, rfl, rfl⟩ c.mk_Work o_Work___init__ rfl (hr.mono (by decide)) c.g_Work (da_cons de_int (da_cons (de_fr (df_lst da_nil)) da_nil))))
    (dss_cons (ds_for hp rfl (di_any rfl (de_v (i := 0))) (pg_name (i := 2) sc_work_of.nd rfl (by first | exact .inl rfl | exact .inr rfl)) gt_n (dss_one (ds_set (i := 1) sc_work_of.nd rfl (by first | exact .inl rfl | exact .inr rfl) (de_callM (c := 0) (k := 5) ⟨rfl, rfl, rfl⟩ (de_v (i := 1)) c.cl_Work c.m_Work_behind nf_Work_behind o_Work_behind (hr.mono (by decide)) tk (da_cons (de_v (i := 2)) da_nil)))))
    (dss_one (ds_ret (de_v (i := 1)))))), Fd.bindsN fun _ _ _ _ _ _ us hl => match us, hl with | [_], _ => rfl⟩
abbrev s_form : Stmt := top 49
def fb_form : SSem := (sSeq (sExpr (eFn 1 g_need_program (aCons (eVar 0) aNil)))
  (sRet (eMeth0 0 1 g_Work_told (eFn 1 g_work_of (aCons (eVar 0) aNil)))))
def g_form : List D → List D → Res D := fun ds γ => bodyR (fb_form (startE 1 ds) γ)
theorem sc_form : FnScope ["program"] ["program"] (defScope s_form) := ⟨rfl, rfl, rfl, by decide +kernel, rfl, by decide +kernel, by decide +kernel⟩
theorem ok_form {P : Program} {w : World} {K : PySem.W.Frag} {mg : Str → Option Value} {base : Heap} {f : Addr} {fd : FuncData} (c : Fc K w mg) (o_Work_told : Ok (CT P w K) mg base 2 1 (He.ma K (He.ga K "Work") "told") g_Work_told) (o_need_program : Ok (CT P w K) mg base 4 1 (He.ga K "need_program") g_need_program) (o_work_of : Ok (CT P w K) mg base 6 1 (He.ga K "work_of") g_work_of) (Fd : FunD K "form" "form" (defArgs s_form) (defBody s_form) (defScope s_form) [] [] f fd) : Ok (CT P w K) mg base 7 1 f g_form := ⟨fd, ["program"], by
  refine fn_dl (fb := fb_form) (C := CT P w K) Fd sc_form ?_ (fun _ _ _ _ => rfl)
  rintro ⟨_, F0, φ0, H0⟩ cdv A outer s H E rfl hr tk hp
  have hu := hr.units
  exact (dss_cons (ds_expr (de_call (k := 4) ⟨rfl, rfl, rfl⟩ o_need_program (hr.mono (by decide)) c.g_need_program c.k_need_program tk (da_cons (de_v (i := 0)) da_nil)))
    (dss_one (ds_ret (de_callM0 (c := 0) (k := 2) ⟨rfl, rfl, rfl⟩ (de_call (k := 6) ⟨rfl, rfl, rfl⟩ o_work_of (hr.mono (by decide)) c.g_work_of c.k_work_of tk (da_cons (de_v (i := 0)) da_nil)) c.cl_Work c.m_Work_told nf_Work_told o_Work_told (hr.mono (by decide)) tk)))), Fd.bindsN fun _ _ _ _ _ _ us hl => match us, hl with | [_], _ => rfl⟩
abbrev s_is_stack : Stmt := top 37
def fb_is_stack : SSem := (sSeq (sIf (cOr (cNot (cVal (eCall dIsi (aCons (eVar 0) (aCons (eC (.raw (.ty "tuple"))) aNil))))) (cCmp bGt (eCall dLenA (aCons (eVar 0) aNil)) (eC (.int 100)))) (sRet (eC (.bl false))) sSkip)
  (sRet (eCall dAll (aCons (eLc (lAny (eVar 0)) [1] (gtN 1) cYesS (eFn 3 g_is_whole (aCons (eVar 1) (aCons (eNeg (eOp gPowI (eC (.int 10)) (eC (.int 30)))) (aCons (eOp gPowI (eC (.int 10)) (eC (.int 30))) aNil))))) aNil))))
def g_is_stack : List D → List D → Res D := fun ds γ => bodyR (fb_is_stack (startE 2 ds) γ)
theorem sc_is_stack : FnScope ["value", "one"] ["value"] (defScope s_is_stack) := ⟨rfl, rfl, rfl, by decide +kernel, rfl, by decide +kernel, by decide +kernel⟩
theorem ok_is_stack {P : Program} {w : World} {K : PySem.W.Frag} {mg : Str → Option Value} {base : Heap} {f : Addr} {fd : FuncData} (c : Fc K w mg) (o_is_whole : Ok (CT P w K) mg base 1 3 (He.ga K "is_whole") g_is_whole) (Fd : FunD K "is_stack" "is_stack" (defArgs s_is_stack) (defBody s_is_stack) (defScope s_is_stack) [] [] f fd) : Ok (CT P w K) mg base 2 1 f g_is_stack := ⟨fd, ["value"], by
  refine fn_dl (fb := fb_is_stack) (C := CT P w K) Fd sc_is_stack ?_ (fun _ _ _ _ => rfl)
  rintro ⟨_, F0, φ0, H0⟩ cdv A outer s H E rfl hr tk hp
  have hu := hr.units
  exact (dss_cons (ds_if (PW.pt (dw_or (dt_not (dt_val (dp (de_callB call_isi (cd_isi rfl) rfl c.b_isinstance boot_isinstance (dps_cons (dp (de_v (i := 0))) (dps_cons (dp (de_bltn rfl c.b_tuple boot_tuple rfl)) dps_nil)))))) (dw_or1 (dt_gt (dp (de_len ⟨rfl, rfl, rfl⟩ c.b_len (dps_cons (dp (de_v (i := 0))) dps_nil))) (dp (de_gint c.i_MOST_DEPTH)))))) (dss_one (ds_ret de_bl)) dss_nil)
    (dss_one (ds_ret (de_callB (cr_all rfl) (cd_all rfl) rfl c.b_all boot_all (dps_cons (dp (de_fr (df_lc (own := [("one", 1)]) rfl sc_is_stack.nd (di_any rfl (de_v (i := 0))) (blk_of (by kernel_rfl)) (fun _ _ _ _ _ => (pg_name (i := 1) sc_is_stack.nd rfl (by first | exact .inl rfl | exact .inr rfl))) gt_n (fun _ _ _ _ _ => dts_nil) (fun _ _ _ _ _ => (de_call (k := 1) ⟨rfl, rfl, rfl⟩ o_is_whole (hr.mono (by decide)) c.g_is_whole c.k_is_whole takesN0 (da_cons (de_v (i := 1)) (da_cons (de_neg (dp (de_powI (dp de_int) (dp de_int)))) (da_cons (de_powI (dp de_int) (dp de_int)) da_nil)))))))) dps_nil))))), Fd.bindsN fun _ _ _ _ _ _ us hl => match us, hl with | [_], _ => rfl⟩
abbrev s_need_stack : Stmt := top 38
def fb_need_stack : SSem := (sIf (cNot (cVal (eFn 1 g_is_stack (aCons (eVar 0) aNil)))) (sErr 2) sSkip)
def g_need_stack : List D → List D → Res D := fun ds γ => bodyR (fb_need_stack (startE 1 ds) γ)
theorem sc_need_stack : FnScope ["stack"] ["stack"] (defScope s_need_stack) := ⟨rfl, rfl, rfl, by decide +kernel, rfl, by decide +kernel, by decide +kernel⟩
theorem ok_need_stack {P : Program} {w : World} {K : PySem.W.Frag} {mg : Str → Option Value} {base : Heap} {f : Addr} {fd : FuncData} (c : Fc K w mg) (o_is_stack : Ok (CT P w K) mg base 2 1 (He.ga K "is_stack") g_is_stack) (Fd : FunD K "need_stack" "need_stack" (defArgs s_need_stack) (defBody s_need_stack) (defScope s_need_stack) [] [] f fd) : Ok (CT P w K) mg base 3 1 f g_need_stack := ⟨fd, ["stack"], by
  refine fn_dl (fb := fb_need_stack) (C := CT P w K) Fd sc_need_stack ?_ (fun _ _ _ _ => rfl)
  rintro ⟨_, F0, φ0, H0⟩ cdv A outer s H E rfl hr tk hp
  have hu := hr.units
  exact (dss_one (ds_if (dt_not (dt_val (dp (de_call (k := 2) ⟨rfl, rfl, rfl⟩ o_is_stack (hr.mono (by decide)) c.g_is_stack c.k_is_stack tk (da_cons (de_v (i := 0)) da_nil))))) (dss_one (ds_raiseC (c := 2) rfl tk c.e_InvalidStack c.g_InvalidStack)) dss_nil)), Fd.bindsN fun _ _ _ _ _ _ us hl => match us, hl with | [_], _ => rfl⟩
abbrev s_worked : Stmt := top 41
def fb_worked : SSem := (sSeq (sIf (cNot (cVal (eCall dIsi (aCons (eVar 0) (aCons (eC (.raw (.ty "str"))) aNil))))) (sRet (eLst (aLim 1000000 (aCons (eVar 0) aNil)))) sSkip)
  (sSeq (sIf (cCmp dInA (eVar 0) (eC (.tup (t_SHUFFLES.map D.str)))) (sRet (eFn 2 g_laid (aCons (eVar 0) (aCons (eVar 1) aNil)))) sSkip)
  (sSeq (sIf (cCmp dEqN (eVar 0) (eC (.str "neg"))) (sRet (eLst (aLim 1000000 (aCons (eNeg (eSubA (eVar 1) (eC (.int 0)))) aNil)))) sSkip)
  (sSeq (sTgt (gtP 2 3) (eVar 1))
  (sRet (eLst (aLim 1000000 (aCons (eIf (cCmp dEqN (eVar 0) (eC (.str "add"))) (eOp gAddA (eVar 2) (eVar 3)) (eIf (cCmp dEqN (eVar 0) (eC (.str "sub"))) (eOp gSubI (eVar 2) (eVar 3)) (eOp gMulA (eVar 2) (eVar 3)))) aNil))))))))
def g_worked : List D → List D → Res D := fun ds γ => bodyR (fb_worked (startE 4 ds) γ)
theorem sc_worked : FnScope ["word", "some", "one", "other"] ["word", "some"] (defScope s_worked) := ⟨rfl, rfl, rfl, by decide +kernel, rfl, by decide +kernel, by decide +kernel⟩
theorem ok_worked {P : Program} {w : World} {K : PySem.W.Frag} {mg : Str → Option Value} {base : Heap} {f : Addr} {fd : FuncData} (c : Fc K w mg) (o_laid : Ok (CT P w K) mg base 1 2 (He.ga K "laid") g_laid) (Fd : FunD K "worked" "worked" (defArgs s_worked) (defBody s_worked) (defScope s_worked) [] [] f fd) : Ok (CT P w K) mg base 2 2 f g_worked := ⟨fd, ["word", "some"], by
  refine fn_dl (fb := fb_worked) (C := CT P w K) Fd sc_worked ?_ (fun _ _ _ _ => rfl)
  rintro ⟨_, F0, φ0, H0⟩ cdv A outer s H E rfl hr tk hp
  have hu := hr.units
  exact (dss_cons (ds_if (dt_not (dt_val (dp (de_callB call_isi (cd_isi rfl) rfl c.b_isinstance boot_isinstance (dps_cons (dp (de_v (i := 0))) (dps_cons (dp (de_bltn rfl c.b_str boot_str rfl)) dps_nil)))))) (dss_one (ds_ret (de_fr (df_lst (da_cons (de_v (i := 0)) da_nil))))) dss_nil)
    (dss_cons (ds_if (dt_inA ⟨rfl, rfl, rfl⟩ hu (dp (de_v (i := 0))) (dp (de_gtup ⟨rfl, rfl, rfl⟩ c.a_SHUFFLES c.t_SHUFFLES))) (dss_one (ds_ret (de_call (k := 1) ⟨rfl, rfl, rfl⟩ o_laid (hr.mono (by decide)) c.g_laid c.k_laid tk (da_cons (de_v (i := 0)) (da_cons (de_v (i := 1)) da_nil))))) dss_nil)
    (dss_cons (ds_if (dt_eqN ⟨rfl, rfl, rfl⟩ hu (dp (de_v (i := 0))) (dp de_str)) (dss_one (ds_ret (de_fr (df_lst (da_cons (de_neg (dp (de_subA ⟨rfl, rfl, rfl⟩ hu (de_v (i := 1)) de_int))) da_nil))))) dss_nil)
    (dss_cons (ds_unp (de_v (i := 1)) (pg_tl rfl (pgs_cons (pg_name (i := 2) sc_worked.nd rfl (by first | exact .inl rfl | exact .inr rfl)) (pgs_cons (pg_name (i := 3) sc_worked.nd rfl (by first | exact .inl rfl | exact .inr rfl)) pgs_nil))) (gt_p rfl))
    (dss_one (ds_ret (de_fr (df_lst (da_cons (de_if (dt_eqN ⟨rfl, rfl, rfl⟩ hu (dp (de_v (i := 0))) (dp de_str)) (de_addA rfl (dp (de_v (i := 2))) (dp (de_v (i := 3)))) (de_if (dt_eqN ⟨rfl, rfl, rfl⟩ hu (dp (de_v (i := 0))) (dp de_str)) (de_subI (dp (de_v (i := 2))) (dp (de_v (i := 3)))) (de_mulA rfl (dp (de_v (i := 2))) (dp (de_v (i := 3)))))) da_nil))))))))), Fd.bindsN fun _ _ _ _ _ _ us hl => match us, hl with | [_, _], _ => rfl⟩
abbrev s_trace_of : Stmt := top 42
def fb_trace_of : SSem := (sSeq (sParN1 3 4 (eLst (aLim 1000000 aNil)) (eCall dLstA (aCons (eVar 1) aNil)))
  (sSeq (sFor (lAny (eVar 0)) (gtN 2) (sSeq (sSet 5 (eFn 1 g_needed (aCons (eVar 2) aNil)))
  (sSeq (sIf (cCmp bLt (eCall dLenA (aCons (eVar 4) aNil)) (eVar 5)) (sErr 8) sSkip)
  (sSeq (sSet 4 (eOp gAddA (eSl (eVar 4) oNone (oSome (eOp gSubI (eCall dLenA (aCons (eVar 4) aNil)) (eVar 5)))) (eFn 2 g_worked (aCons (eVar 2) (aCons (eSl (eVar 4) (oSome (eOp gSubI (eCall dLenA (aCons (eVar 4) aNil)) (eVar 5))) oNone) aNil)))))
  (sSeq (sIf (cVal (eCall dAny (aCons (eLc (lAny (eVar 4)) [6] (gtN 6) cYesS (eCmp bGt (eCall dAbs (aCons (eVar 6) aNil)) (eC (.int 1000000000000000000000000000000000000000000000000000000000000)))) aNil))) (sErr 9) sSkip)
  (sApp 3 (eCall dTup (aCons (eVar 4) aNil))))))))
  (sRetMine 3)))
def g_trace_of : List D → List D → Res D := fun ds γ => bodyR (fb_trace_of (startE 7 ds) γ)
theorem sc_trace_of : FnScope ["program", "stack", "word", "found", "held", "many", "one"] ["program", "stack"] (defScope s_trace_of) := ⟨rfl, rfl, rfl, by decide +kernel, rfl, by decide +kernel, by decide +kernel⟩
theorem ok_trace_of {P : Program} {w : World} {K : PySem.W.Frag} {mg : Str → Option Value} {base : Heap} {f : Addr} {fd : FuncData} (c : Fc K w mg) (o_needed : Ok (CT P w K) mg base 1 1 (He.ga K "needed") g_needed) (o_worked : Ok (CT P w K) mg base 2 2 (He.ga K "worked") g_worked) (Fd : FunD K "trace_of" "trace_of" (defArgs s_trace_of) (defBody s_trace_of) (defScope s_trace_of) [] [] f fd) : Ok (CT P w K) mg base 3 2 f g_trace_of := ⟨fd, ["program", "stack"], by
  refine fn_dl (fb := fb_trace_of) (C := CT P w K) Fd sc_trace_of ?_ (fun _ _ _ _ => rfl)
  rintro ⟨_, F0, φ0, H0⟩ cdv A outer s H E rfl hr tk hp
  have hu := hr.units
  exact (dss_cons (ds_parN1 (i := 3) (j := 4) rfl sc_trace_of.nd rfl rfl (by decide) rfl rfl (df_lst da_nil) (de_list ⟨rfl, rfl, rfl⟩ rfl c.b_list (dps_cons (dp (de_v (i := 1))) dps_nil)))
    (dss_cons (ds_for hp rfl (di_any rfl (de_v (i := 0))) (pg_name (i := 2) sc_trace_of.nd rfl (by first | exact .inl rfl | exact .inr rfl)) gt_n (dss_cons (ds_set (i := 5) sc_trace_of.nd rfl (by first | exact .inl rfl | exact .inr rfl) (de_call (k := 1) ⟨rfl, rfl, rfl⟩ o_needed (hr.mono (by decide)) c.g_needed c.k_needed tk (da_cons (de_v (i := 2)) da_nil)))
    (dss_cons (ds_if (dt_lt (dp (de_len ⟨rfl, rfl, rfl⟩ c.b_len (dps_cons (dp (de_v (i := 4))) dps_nil))) (dp (de_v (i := 5)))) (dss_one (ds_raiseC (c := 8) rfl tk c.e_TooFew c.g_TooFew)) dss_nil)
    (dss_cons (ds_set (i := 4) sc_trace_of.nd rfl (by first | exact .inl rfl | exact .inr rfl) (de_addA rfl (dp (de_sl rfl (dp (de_v (i := 4))) do_none (do_some (dp (de_subI (dp (de_len ⟨rfl, rfl, rfl⟩ c.b_len (dps_cons (dp (de_v (i := 4))) dps_nil))) (dp (de_v (i := 5)))))))) (dp (de_call (k := 2) ⟨rfl, rfl, rfl⟩ o_worked (hr.mono (by decide)) c.g_worked c.k_worked tk (da_cons (de_v (i := 2)) (da_cons (de_sl rfl (dp (de_v (i := 4))) (do_some (dp (de_subI (dp (de_len ⟨rfl, rfl, rfl⟩ c.b_len (dps_cons (dp (de_v (i := 4))) dps_nil))) (dp (de_v (i := 5)))))) do_none) da_nil))))))
    (dss_cons (ds_if (dt_val (dp (de_callB (cr_any rfl) (cd_any rfl) rfl c.b_any boot_any (dps_cons (dp (de_fr (df_lc (own := [("one", 6)]) rfl sc_trace_of.nd (di_any rfl (de_v (i := 4))) (blk_of (by kernel_rfl)) (fun _ _ _ _ _ => (pg_name (i := 6) sc_trace_of.nd rfl (by first | exact .inl rfl | exact .inr rfl))) gt_n (fun _ _ _ _ _ => dts_nil) (fun _ _ _ _ _ => (de_gt (dp (de_callB (call_abs) cd_abs rfl c.b_abs boot_abs (dps_cons (dp (de_v (i := 6))) dps_nil))) (dp (de_gint c.i_MOST_NUMBER_programs))))))) dps_nil)))) (dss_one (ds_raiseC (c := 9) rfl tk c.e_TooMany c.g_TooMany)) dss_nil)
    (dss_one (ds_app (i := 3) rfl (by first | exact .inl rfl | exact .inr (.inl rfl)) (de_callT call_tuple_of (cd_tuple rfl) rfl c.b_tuple boot_tuple (dps_cons (dp (de_v (i := 4))) dps_nil)))))))))
    (dss_one (ds_retMine (i := 3) rfl (by first | exact .inl rfl | exact .inr (.inl rfl)))))), Fd.bindsN fun _ _ _ _ _ _ us hl => match us, hl with | [_, _], _ => rfl⟩
abbrev s_run : Stmt := top 43
def fb_run : SSem := (sSeq (sExpr (eFn 1 g_need_program (aCons (eVar 0) aNil)))
  (sSeq (sExpr (eFn 1 g_need_stack (aCons (eVar 1) aNil)))
  (sRet (eSubA (eOp gAddA (eLst (aLim 1000000 (aCons (eVar 1) aNil))) (eFn 2 g_trace_of (aCons (eVar 0) (aCons (eVar 1) aNil)))) (eNeg (eC (.int 1)))))))
def g_run : List D → List D → Res D := fun ds γ => bodyR (fb_run (startE 2 ds) γ)
theorem sc_run : FnScope ["program", "stack"] ["program", "stack"] (defScope s_run) := ⟨rfl, rfl, rfl, by decide +kernel, rfl, by decide +kernel, by decide +kernel⟩
theorem ok_run {P : Program} {w : World} {K : PySem.W.Frag} {mg : Str → Option Value} {base : Heap} {f : Addr} {fd : FuncData} (c : Fc K w mg) (o_need_program : Ok (CT P w K) mg base 4 1 (He.ga K "need_program") g_need_program) (o_need_stack : Ok (CT P w K) mg base 3 1 (He.ga K "need_stack") g_need_stack) (o_trace_of : Ok (CT P w K) mg base 3 2 (He.ga K "trace_of") g_trace_of) (Fd : FunD K "run" "run" (defArgs s_run) (defBody s_run) (defScope s_run) [] [] f fd) : Ok (CT P w K) mg base 5 2 f g_run := ⟨fd, ["program", "stack"], by
  refine fn_dl (fb := fb_run) (C := CT P w K) Fd sc_run ?_ (fun _ _ _ _ => rfl)
  rintro ⟨_, F0, φ0, H0⟩ cdv A outer s H E rfl hr tk hp
  have hu := hr.units
  exact (dss_cons (ds_expr (de_call (k := 4) ⟨rfl, rfl, rfl⟩ o_need_program (hr.mono (by decide)) c.g_need_program c.k_need_program tk (da_cons (de_v (i := 0)) da_nil)))
    (dss_cons (ds_expr (de_call (k := 3) ⟨rfl, rfl, rfl⟩ o_need_stack (hr.mono (by decide)) c.g_need_stack c.k_need_stack tk (da_cons (de_v (i := 1)) da_nil)))
    (dss_one (ds_ret (de_subA ⟨rfl, rfl, rfl⟩ hu (de_addA rfl (dp (de_fr (df_lst (da_cons (de_v (i := 1)) da_nil)))) (dp (de_call (k := 3) ⟨rfl, rfl, rfl⟩ o_trace_of (hr.mono (by decide)) c.g_trace_of c.k_trace_of tk (da_cons (de_v (i := 0)) (da_cons (de_v (i := 1)) da_nil))))) (de_neg (dp de_int))))))), Fd.bindsN fun _ _ _ _ _ _ us hl => match us, hl with | [_, _], _ => rfl⟩
abbrev s_is_name : Stmt := top 54
def fb_is_name : SSem := sStuck
def g_is_name : List D → List D → Res D := fun ds γ => bodyR (fb_is_name (startE 2 ds) γ)
theorem sc_is_name : FnScope ["value", "sign"] ["value"] (defScope s_is_name) := ⟨rfl, rfl, rfl, by decide +kernel, rfl, by decide +kernel, by decide +kernel⟩
theorem ok_is_name {P : Program} {w : World} {K : PySem.W.Frag} {mg : Str → Option Value} {base : Heap} {f : Addr} {fd : FuncData} (c : Fc K w mg) (Fd : FunD K "is_name" "is_name" (defArgs s_is_name) (defBody s_is_name) (defScope s_is_name) [] [] f fd) : Ok (CT P w K) mg base 1 1 f g_is_name := ⟨fd, ["value"], by
  refine fn_dl (fb := fb_is_name) (C := CT P w K) Fd sc_is_name ?_ (fun _ _ _ _ => rfl)
  rintro ⟨_, F0, φ0, H0⟩ cdv A outer s H E rfl hr tk hp
  have hu := hr.units
  exact dss_stuck, Fd.bindsN fun _ _ _ _ _ _ us hl => match us, hl with | [_], _ => rfl⟩
abbrev s_is_book : Stmt := top 56
def fb_is_book : SSem := (sSeq (sIf (cOr (cNot (cVal (eCall dIsi (aCons (eVar 0) (aCons (eC (.raw (.ty "tuple"))) aNil))))) (cCmp bGt (eCall dLenA (aCons (eVar 0) aNil)) (eC (.int 6)))) (sRet (eC (.bl false))) sSkip)
  (sSeq (sSet 1 (eLst (aLim 1000000 aNil)))
  (sSeq (sFor (lAny (eVar 0)) (gtN 2) (sSeq (sIf (cOr (cNot (cVal (eCall dIsi (aCons (eVar 2) (aCons (eC (.raw (.ty "tuple"))) aNil))))) (cOr (cCmp dNeN (eCall dLenA (aCons (eVar 2) aNil)) (eC (.int 2))) (cOr (cNot (cVal (eFn 1 g_is_name (aCons (eSubA (eVar 2) (eC (.int 0))) aNil)))) (cCmp dInA (eSubA (eVar 2) (eC (.int 0))) (eVar 1))))) (sRet (eC (.bl false))) sSkip)
  sStuck))
  (sRet (eC (.bl true))))))
def g_is_book : List D → List D → Res D := fun ds γ => bodyR (fb_is_book (startE 3 ds) γ)
theorem sc_is_book : FnScope ["value", "names", "entry"] ["value"] (defScope s_is_book) := ⟨rfl, rfl, rfl, by decide +kernel, rfl, by decide +kernel, by decide +kernel⟩
theorem ok_is_book {P : Program} {w : World} {K : PySem.W.Frag} {mg : Str → Option Value} {base : Heap} {f : Addr} {fd : FuncData} (c : Fc K w mg) (o_is_name : Ok (CT P w K) mg base 1 1 (He.ga K "is_name") g_is_name) (Fd : FunD K "is_book" "is_book" (defArgs s_is_book) (defBody s_is_book) (defScope s_is_book) [] [] f fd) : Ok (CT P w K) mg base 2 1 f g_is_book := ⟨fd, ["value"], by
  refine fn_dl (fb := fb_is_book) (C := CT P w K) Fd sc_is_book ?_ (fun _ _ _ _ => rfl)
  rintro ⟨_, F0, φ0, H0⟩ cdv A outer s H E rfl hr tk hp
  have hu := hr.units
  exact (dss_cons (ds_if (PW.pt (dw_or (dt_not (dt_val (dp (de_callB call_isi (cd_isi rfl) rfl c.b_isinstance boot_isinstance (dps_cons (dp (de_v (i := 0))) (dps_cons (dp (de_bltn rfl c.b_tuple boot_tuple rfl)) dps_nil)))))) (dw_or1 (dt_gt (dp (de_len ⟨rfl, rfl, rfl⟩ c.b_len (dps_cons (dp (de_v (i := 0))) dps_nil))) (dp (de_gint c.i_MOST_NAMES)))))) (dss_one (ds_ret de_bl)) dss_nil)
    (dss_cons (ds_set (i := 1) sc_is_book.nd rfl (by first | exact .inl rfl | exact .inr rfl) (de_fr (df_lst da_nil)))
    (dss_cons (ds_for hp rfl (di_any rfl (de_v (i := 0))) (pg_name (i := 2) sc_is_book.nd rfl (by first | exact .inl rfl | exact .inr rfl)) gt_n (dss_cons (ds_if (PW.pt (dw_or (dt_not (dt_val (dp (de_callB call_isi (cd_isi rfl) rfl c.b_isinstance boot_isinstance (dps_cons (dp (de_v (i := 2))) (dps_cons (dp (de_bltn rfl c.b_tuple boot_tuple rfl)) dps_nil)))))) (dw_or (dt_neN ⟨rfl, rfl, rfl⟩ hu (dp (de_len ⟨rfl, rfl, rfl⟩ c.b_len (dps_cons (dp (de_v (i := 2))) dps_nil))) (dp de_int)) (dw_or (dt_not (dt_val (dp (de_call (k := 1) ⟨rfl, rfl, rfl⟩ o_is_name (hr.mono (by decide)) c.g_is_name c.k_is_name tk (da_cons (de_subA ⟨rfl, rfl, rfl⟩ hu (de_v (i := 2)) de_int) da_nil))))) (dw_or1 (dt_inA ⟨rfl, rfl, rfl⟩ hu (dp (de_subA ⟨rfl, rfl, rfl⟩ hu (de_v (i := 2)) de_int)) (dp (de_v (i := 1))))))))) (dss_one (ds_ret de_bl)) dss_nil)
    dss_stuck))
    (dss_one (ds_ret de_bl))))), Fd.bindsN fun _ _ _ _ _ _ us hl => match us, hl with | [_], _ => rfl⟩
abbrev s_need_book : Stmt := top 57
def fb_need_book : SSem := (sIf (cNot (cVal (eFn 1 g_is_book (aCons (eVar 0) aNil)))) (sErr 3) sSkip)
def g_need_book : List D → List D → Res D := fun ds γ => bodyR (fb_need_book (startE 1 ds) γ)
theorem sc_need_book : FnScope ["book"] ["book"] (defScope s_need_book) := ⟨rfl, rfl, rfl, by decide +kernel, rfl, by decide +kernel, by decide +kernel⟩
theorem ok_need_book {P : Program} {w : World} {K : PySem.W.Frag} {mg : Str → Option Value} {base : Heap} {f : Addr} {fd : FuncData} (c : Fc K w mg) (o_is_book : Ok (CT P w K) mg base 2 1 (He.ga K "is_book") g_is_book) (Fd : FunD K "need_book" "need_book" (defArgs s_need_book) (defBody s_need_book) (defScope s_need_book) [] [] f fd) : Ok (CT P w K) mg base 3 1 f g_need_book := ⟨fd, ["book"], by
  refine fn_dl (fb := fb_need_book) (C := CT P w K) Fd sc_need_book ?_ (fun _ _ _ _ => rfl)
  rintro ⟨_, F0, φ0, H0⟩ cdv A outer s H E rfl hr tk hp
  have hu := hr.units
  exact (dss_one (ds_if (dt_not (dt_val (dp (de_call (k := 2) ⟨rfl, rfl, rfl⟩ o_is_book (hr.mono (by decide)) c.g_is_book c.k_is_book tk (da_cons (de_v (i := 0)) da_nil))))) (dss_one (ds_raiseC (c := 3) rfl tk c.e_InvalidBook c.g_InvalidBook)) dss_nil)), Fd.bindsN fun _ _ _ _ _ _ us hl => match us, hl with | [_], _ => rfl⟩
abbrev s_uses : Stmt := top 58
def fb_uses : SSem := (sSeq (sExpr (eFn 1 g_need_book (aCons (eVar 0) aNil)))
  sStuck)
def g_uses : List D → List D → Res D := fun ds γ => bodyR (fb_uses (startE 6 ds) γ)
theorem sc_uses : FnScope ["book", "known", "name", "row", "some", "one"] ["book"] (defScope s_uses) := ⟨rfl, rfl, rfl, by decide +kernel, rfl, by decide +kernel, by decide +kernel⟩
theorem ok_uses {P : Program} {w : World} {K : PySem.W.Frag} {mg : Str → Option Value} {base : Heap} {f : Addr} {fd : FuncData} (c : Fc K w mg) (o_need_book : Ok (CT P w K) mg base 3 1 (He.ga K "need_book") g_need_book) (Fd : FunD K "uses" "uses" (defArgs s_uses) (defBody s_uses) (defScope s_uses) [] [] f fd) : Ok (CT P w K) mg base 4 1 f g_uses := ⟨fd, ["book"], by
  refine fn_dl (fb := fb_uses) (C := CT P w K) Fd sc_uses ?_ (fun _ _ _ _ => rfl)
  rintro ⟨_, F0, φ0, H0⟩ cdv A outer s H E rfl hr tk hp
  have hu := hr.units
  exact (dss_cons (ds_expr (de_call (k := 3) ⟨rfl, rfl, rfl⟩ o_need_book (hr.mono (by decide)) c.g_need_book c.k_need_book tk (da_cons (de_v (i := 0)) da_nil)))
    dss_stuck), Fd.bindsN fun _ _ _ _ _ _ us hl => match us, hl with | [_], _ => rfl⟩
abbrev s_need_most : Stmt := top 70
def fb_need_most : SSem := (sIf (cNot (cVal (eFn 3 g_is_whole (aCons (eVar 0) (aCons (eC (.int 0)) (aCons (eVar 1) aNil)))))) (sErr 4) sSkip)
def g_need_most : List D → List D → Res D := fun ds γ => bodyR (fb_need_most (startE 2 ds) γ)
theorem sc_need_most : FnScope ["most", "far"] ["most", "far"] (defScope s_need_most) := ⟨rfl, rfl, rfl, by decide +kernel, rfl, by decide +kernel, by decide +kernel⟩
theorem ok_need_most {P : Program} {w : World} {K : PySem.W.Frag} {mg : Str → Option Value} {base : Heap} {f : Addr} {fd : FuncData} (c : Fc K w mg) (o_is_whole : Ok (CT P w K) mg base 1 3 (He.ga K "is_whole") g_is_whole) (Fd : FunD K "need_most" "need_most" (defArgs s_need_most) (defBody s_need_most) (defScope s_need_most) [] [] f fd) : Ok (CT P w K) mg base 2 2 f g_need_most := ⟨fd, ["most", "far"], by
  refine fn_dl (fb := fb_need_most) (C := CT P w K) Fd sc_need_most ?_ (fun _ _ _ _ => rfl)
  rintro ⟨_, F0, φ0, H0⟩ cdv A outer s H E rfl hr tk hp
  have hu := hr.units
  exact (dss_one (ds_if (dt_not (dt_val (dp (de_call (k := 1) ⟨rfl, rfl, rfl⟩ o_is_whole (hr.mono (by decide)) c.g_is_whole c.k_is_whole tk (da_cons (de_v (i := 0)) (da_cons de_int (da_cons (de_v (i := 1)) da_nil))))))) (dss_one (ds_raiseC (c := 4) rfl tk c.e_InvalidNumber c.g_InvalidNumber)) dss_nil)), Fd.bindsN fun _ _ _ _ _ _ us hl => match us, hl with | [_, _], _ => rfl⟩
abbrev s_count_shuffles : Stmt := top 72
def fb_count_shuffles : SSem := (sSeq (sExpr (eFn 2 g_need_most (aCons (eVar 0) (aCons (eOp gSubI (eC (.int 6)) (eC (.int 1))) aNil))))
  sStuck)
def g_count_shuffles : List D → List D → Res D := fun ds γ => bodyR (fb_count_shuffles (startE 5 ds) γ)
theorem sc_count_shuffles : FnScope ["most", "turn", "level", "met", "found"] ["most"] (defScope s_count_shuffles) := ⟨rfl, rfl, rfl, by decide +kernel, rfl, by decide +kernel, by decide +kernel⟩
theorem ok_count_shuffles {P : Program} {w : World} {K : PySem.W.Frag} {mg : Str → Option Value} {base : Heap} {f : Addr} {fd : FuncData} (c : Fc K w mg) (o_need_most : Ok (CT P w K) mg base 2 2 (He.ga K "need_most") g_need_most) (Fd : FunD K "count_shuffles" "count_shuffles" (defArgs s_count_shuffles) (defBody s_count_shuffles) (defScope s_count_shuffles) [] [] f fd) : Ok (CT P w K) mg base 3 1 f g_count_shuffles := ⟨fd, ["most"], by
  refine fn_dl (fb := fb_count_shuffles) (C := CT P w K) Fd sc_count_shuffles ?_ (fun _ _ _ _ => rfl)
  rintro ⟨_, F0, φ0, H0⟩ cdv A outer s H E rfl hr tk hp
  have hu := hr.units
  exact (dss_cons (ds_expr (de_call (k := 2) ⟨rfl, rfl, rfl⟩ o_need_most (hr.mono (by decide)) c.g_need_most c.k_need_most tk (da_cons (de_v (i := 0)) (da_cons (de_subI (dp (de_gint c.i_MOST_SHUFFLE)) (dp de_int)) da_nil))))
    dss_stuck), Fd.bindsN fun _ _ _ _ _ _ us hl => match us, hl with | [_], _ => rfl⟩
abbrev s_is_shuffle_row : Stmt := top 66
def fb_is_shuffle_row : SSem := (sRet (eAnd (eCall dIsi (aCons (eVar 0) (aCons (eC (.raw (.ty "tuple"))) aNil))) (eAnd (eCmp bLe (eCall dLenA (aCons (eVar 0) aNil)) (eC (.int 6))) (eCall dAll (aCons (eLc (lAny (eVar 0)) [1] (gtN 1) cYesS (eFn 3 g_is_whole (aCons (eVar 1) (aCons (eC (.int 1)) (aCons (eC (.int 4)) aNil))))) aNil)))))
def g_is_shuffle_row : List D → List D → Res D := fun ds γ => bodyR (fb_is_shuffle_row (startE 2 ds) γ)
theorem sc_is_shuffle_row : FnScope ["value", "one"] ["value"] (defScope s_is_shuffle_row) := ⟨rfl, rfl, rfl, by decide +kernel, rfl, by decide +kernel, by decide +kernel⟩
theorem ok_is_shuffle_row {P : Program} {w : World} {K : PySem.W.Frag} {mg : Str → Option Value} {base : Heap} {f : Addr} {fd : FuncData} (c : Fc K w mg) (o_is_whole : Ok (CT P w K) mg base 1 3 (He.ga K "is_whole") g_is_whole) (Fd : FunD K "is_shuffle_row" "is_shuffle_row" (defArgs s_is_shuffle_row) (defBody s_is_shuffle_row) (defScope s_is_shuffle_row) [] [] f fd) : Ok (CT P w K) mg base 2 1 f g_is_shuffle_row := ⟨fd, ["value"], by
  refine fn_dl (fb := fb_is_shuffle_row) (C := CT P w K) Fd sc_is_shuffle_row ?_ (fun _ _ _ _ => rfl)
  rintro ⟨_, F0, φ0, H0⟩ cdv A outer s H E rfl hr tk hp
  have hu := hr.units
  exact (dss_one (ds_ret (de_and (dp (de_callB call_isi (cd_isi rfl) rfl c.b_isinstance boot_isinstance (dps_cons (dp (de_v (i := 0))) (dps_cons (dp (de_bltn rfl c.b_tuple boot_tuple rfl)) dps_nil)))) (de_and (dp (de_le (dp (de_len ⟨rfl, rfl, rfl⟩ c.b_len (dps_cons (dp (de_v (i := 0))) dps_nil))) (dp de_int))) (de_one (de_callB (cr_all rfl) (cd_all rfl) rfl c.b_all boot_all (dps_cons (dp (de_fr (df_lc (own := [("one", 1)]) rfl sc_is_shuffle_row.nd (di_any rfl (de_v (i := 0))) (blk_of (by kernel_rfl)) (fun _ _ _ _ _ => (pg_name (i := 1) sc_is_shuffle_row.nd rfl (by first | exact .inl rfl | exact .inr rfl))) gt_n (fun _ _ _ _ _ => dts_nil) (fun _ _ _ _ _ => (de_call (k := 1) ⟨rfl, rfl, rfl⟩ o_is_whole (hr.mono (by decide)) c.g_is_whole c.k_is_whole takesN0 (da_cons (de_v (i := 1)) (da_cons de_int (da_cons de_int da_nil)))))))) dps_nil))))))), Fd.bindsN fun _ _ _ _ _ _ us hl => match us, hl with | [_], _ => rfl⟩
abbrev s_shuffle_words : Stmt := top 71
def fb_shuffle_words : SSem := (sSeq (sIf (cNot (cVal (eFn 3 g_is_whole (aCons (eVar 0) (aCons (eC (.int 0)) (aCons (eC (.int 4)) aNil)))))) (sErr 4) sSkip)
  (sSeq (sIf (cOr (cNot (cVal (eFn 1 g_is_shuffle_row (aCons (eVar 1) aNil)))) (cVal (eCall dAny (aCons (eLc (lAny (eVar 1)) [4] (gtN 4) cYesS (eCmp bGt (eVar 4) (eVar 0))) aNil)))) (sErr 5) sSkip)
  (sSeq (sExpr (eFn 2 g_need_most (aCons (eVar 2) (aCons (eC (.int 6)) aNil))))
  sStuck)))
def g_shuffle_words : List D → List D → Res D := fun ds γ => bodyR (fb_shuffle_words (startE 6 ds) γ)
theorem sc_shuffle_words : FnScope ["need", "row", "most", "goal", "one", "depth"] ["need", "row", "most"] (defScope s_shuffle_words) := ⟨rfl, rfl, rfl, by decide +kernel, rfl, by decide +kernel, by decide +kernel⟩
theorem ok_shuffle_words {P : Program} {w : World} {K : PySem.W.Frag} {mg : Str → Option Value} {base : Heap} {f : Addr} {fd : FuncData} (c : Fc K w mg) (o_is_shuffle_row : Ok (CT P w K) mg base 2 1 (He.ga K "is_shuffle_row") g_is_shuffle_row) (o_is_whole : Ok (CT P w K) mg base 1 3 (He.ga K "is_whole") g_is_whole) (o_need_most : Ok (CT P w K) mg base 2 2 (He.ga K "need_most") g_need_most) (Fd : FunD K "shuffle_words" "shuffle_words" (defArgs s_shuffle_words) (defBody s_shuffle_words) (defScope s_shuffle_words) [] [] f fd) : Ok (CT P w K) mg base 3 3 f g_shuffle_words := ⟨fd, ["need", "row", "most"], by
  refine fn_dl (fb := fb_shuffle_words) (C := CT P w K) Fd sc_shuffle_words ?_ (fun _ _ _ _ => rfl)
  rintro ⟨_, F0, φ0, H0⟩ cdv A outer s H E rfl hr tk hp
  have hu := hr.units
  exact (dss_cons (ds_if (dt_not (dt_val (dp (de_call (k := 1) ⟨rfl, rfl, rfl⟩ o_is_whole (hr.mono (by decide)) c.g_is_whole c.k_is_whole tk (da_cons (de_v (i := 0)) (da_cons de_int (da_cons de_int da_nil))))))) (dss_one (ds_raiseC (c := 4) rfl tk c.e_InvalidNumber c.g_InvalidNumber)) dss_nil)
    (dss_cons (ds_if (PW.pt (dw_or (dt_not (dt_val (dp (de_call (k := 2) ⟨rfl, rfl, rfl⟩ o_is_shuffle_row (hr.mono (by decide)) c.g_is_shuffle_row c.k_is_shuffle_row tk (da_cons (de_v (i := 1)) da_nil))))) (dw_or1 (dt_val (dp (de_callB (cr_any rfl) (cd_any rfl) rfl c.b_any boot_any (dps_cons (dp (de_fr (df_lc (own := [("one", 4)]) rfl sc_shuffle_words.nd (di_any rfl (de_v (i := 1))) (blk_of (by kernel_rfl)) (fun _ _ _ _ _ => (pg_name (i := 4) sc_shuffle_words.nd rfl (by first | exact .inl rfl | exact .inr rfl))) gt_n (fun _ _ _ _ _ => dts_nil) (fun _ _ _ _ _ => (de_gt (dp (de_v (i := 4))) (dp (de_v (i := 0)))))))) dps_nil))))))) (dss_one (ds_raiseC (c := 5) rfl tk c.e_InvalidShuffle c.g_InvalidShuffle)) dss_nil)
    (dss_cons (ds_expr (de_call (k := 2) ⟨rfl, rfl, rfl⟩ o_need_most (hr.mono (by decide)) c.g_need_most c.k_need_most tk (da_cons (de_v (i := 2)) (da_cons (de_gint c.i_MOST_SHUFFLE) da_nil))))
    dss_stuck))), Fd.bindsN fun _ _ _ _ _ _ us hl => match us, hl with | [_, _, _], _ => rfl⟩
abbrev s_written_program : Stmt := top 74
def fb_written_program : SSem := (sRet (eJoin (eC (.str " ")) (eLc (lAny (eVar 0)) [1] (gtN 1) cYesS (eCall dStrA (aCons (eVar 1) aNil)))))
def g_written_program : List D → List D → Res D := fun ds γ => bodyR (fb_written_program (startE 2 ds) γ)
theorem sc_written_program : FnScope ["program", "word"] ["program"] (defScope s_written_program) := ⟨rfl, rfl, rfl, by decide +kernel, rfl, by decide +kernel, by decide +kernel⟩
theorem ok_written_program {P : Program} {w : World} {K : PySem.W.Frag} {mg : Str → Option Value} {base : Heap} {f : Addr} {fd : FuncData} (c : Fc K w mg) (Fd : FunD K "written_program" "written_program" (defArgs s_written_program) (defBody s_written_program) (defScope s_written_program) [] [] f fd) : Ok (CT P w K) mg base 1 1 f g_written_program := ⟨fd, ["program"], by
  refine fn_dl (fb := fb_written_program) (C := CT P w K) Fd sc_written_program ?_ (fun _ _ _ _ => rfl)
  rintro ⟨_, F0, φ0, H0⟩ cdv A outer s H E rfl hr tk hp
  have hu := hr.units
  exact (dss_one (ds_ret (de_join de_str (de_fr (df_lc (own := [("word", 1)]) rfl sc_written_program.nd (di_any rfl (de_v (i := 0))) (blk_of (by kernel_rfl)) (fun _ _ _ _ _ => (pg_name (i := 1) sc_written_program.nd rfl (by first | exact .inl rfl | exact .inr rfl))) gt_n (fun _ _ _ _ _ => dts_nil) (fun _ _ _ _ _ => (de_callT call_strA cd_strA rfl c.b_str boot_str (dps_cons (dp (de_v (i := 1))) dps_nil)))))))), Fd.bindsN fun _ _ _ _ _ _ us hl => match us, hl with | [_], _ => rfl⟩
abbrev s_word_of : Stmt := top 75
def fb_word_of : SSem := (sSeq (sSet 1 (eIf (cCmp dEqN (eSl (eVar 0) oNone (oSome (eC (.int 1)))) (eC (.str "-"))) (eSl (eVar 0) (oSome (eC (.int 1))) oNone) (eVar 0)))
  (sSeq (sIf (cAnd (cCmp dEqN (eCall dLenA (aCons (eVar 1) aNil)) (eC (.int 1))) (cCmp dInT (eVar 1) (eC (.str "0123456789")))) (sRet (eCall dIntT (aCons (eVar 0) aNil))) sSkip)
  (sRet (eVar 0))))
def g_word_of : List D → List D → Res D := fun ds γ => bodyR (fb_word_of (startE 2 ds) γ)
theorem sc_word_of : FnScope ["text", "digit"] ["text"] (defScope s_word_of) := ⟨rfl, rfl, rfl, by decide +kernel, rfl, by decide +kernel, by decide +kernel⟩
theorem ok_word_of {P : Program} {w : World} {K : PySem.W.Frag} {mg : Str → Option Value} {base : Heap} {f : Addr} {fd : FuncData} (c : Fc K w mg) (Fd : FunD K "word_of" "word_of" (defArgs s_word_of) (defBody s_word_of) (defScope s_word_of) [] [] f fd) : Ok (CT P w K) mg base 1 1 f g_word_of := ⟨fd, ["text"], by
  refine fn_dl (fb := fb_word_of) (C := CT P w K) Fd sc_word_of ?_ (fun _ _ _ _ => rfl)
  rintro ⟨_, F0, φ0, H0⟩ cdv A outer s H E rfl hr tk hp
  have hu := hr.units
  exact (dss_cons (ds_set (i := 1) sc_word_of.nd rfl (by first | exact .inl rfl | exact .inr rfl) (de_if (dt_eqN ⟨rfl, rfl, rfl⟩ hu (dp (de_sl rfl (dp (de_v (i := 0))) do_none (do_some (dp de_int)))) (dp de_str)) (de_sl rfl (dp (de_v (i := 0))) (do_some (dp de_int)) do_none) (de_v (i := 0))))
    (dss_cons (ds_if (PW.pt (dw_and (dt_eqN ⟨rfl, rfl, rfl⟩ hu (dp (de_len ⟨rfl, rfl, rfl⟩ c.b_len (dps_cons (dp (de_v (i := 1))) dps_nil))) (dp de_int)) (dw_and1 (dt_inT (dp (de_v (i := 1))) (dp de_str))))) (dss_one (ds_ret (de_callT call_int_str cd_intT rfl c.b_int boot_int (dps_cons (dp (de_v (i := 0))) dps_nil)))) dss_nil)
    (dss_one (ds_ret (de_v (i := 0)))))), Fd.bindsN fun _ _ _ _ _ _ us hl => match us, hl with | [_], _ => rfl⟩
abbrev s_parse_program : Stmt := top 76
def fb_parse_program : SSem := (sSeq (sIf (cNot (cVal (eCall dIsi (aCons (eVar 0) (aCons (eC (.raw (.ty "str"))) aNil))))) (sErr 6) sSkip)
  (sSeq (sSet 1 (eIf (cCmp dEqN (eVar 0) (eC (.str ""))) (eTup (aLim 1000000 aNil)) (eCall dTup (aCons (eLc (lAny (eSplit (eVar 0) (eC (.str " ")))) [2] (gtN 2) cYesS (eFn 1 g_word_of (aCons (eVar 2) aNil))) aNil))))
  (sSeq (sIf (cOr (cNot (cVal (eFn 1 g_is_program (aCons (eVar 1) aNil)))) (cCmp dNeN (eFn 1 g_written_program (aCons (eVar 1) aNil)) (eVar 0))) (sErr 6) sSkip)
  (sRet (eVar 1)))))
def g_parse_program : List D → List D → Res D := fun ds γ => bodyR (fb_parse_program (startE 3 ds) γ)
theorem sc_parse_program : FnScope ["text", "found", "one"] ["text"] (defScope s_parse_program) := ⟨rfl, rfl, rfl, by decide +kernel, rfl, by decide +kernel, by decide +kernel⟩
theorem ok_parse_program {P : Program} {w : World} {K : PySem.W.Frag} {mg : Str → Option Value} {base : Heap} {f : Addr} {fd : FuncData} (c : Fc K w mg) (o_is_program : Ok (CT P w K) mg base 3 1 (He.ga K "is_program") g_is_program) (o_word_of : Ok (CT P w K) mg base 1 1 (He.ga K "word_of") g_word_of) (o_written_program : Ok (CT P w K) mg base 1 1 (He.ga K "written_program") g_written_program) (Fd : FunD K "parse_program" "parse_program" (defArgs s_parse_program) (defBody s_parse_program) (defScope s_parse_program) [] [] f fd) : Ok (CT P w K) mg base 4 1 f g_parse_program := ⟨fd, ["text"], by
  refine fn_dl (fb := fb_parse_program) (C := CT P w K) Fd sc_parse_program ?_ (fun _ _ _ _ => rfl)
  rintro ⟨_, F0, φ0, H0⟩ cdv A outer s H E rfl hr tk hp
  have hu := hr.units
  exact (dss_cons (ds_if (dt_not (dt_val (dp (de_callB call_isi (cd_isi rfl) rfl c.b_isinstance boot_isinstance (dps_cons (dp (de_v (i := 0))) (dps_cons (dp (de_bltn rfl c.b_str boot_str rfl)) dps_nil)))))) (dss_one (ds_raiseC (c := 6) rfl tk c.e_InvalidText c.g_InvalidText)) dss_nil)
    (dss_cons (ds_set (i := 1) sc_parse_program.nd rfl (by first | exact .inl rfl | exact .inr rfl) (de_if (dt_eqN ⟨rfl, rfl, rfl⟩ hu (dp (de_v (i := 0))) (dp de_str)) (de_tup da_nil) (de_callT call_tuple_of (cd_tuple rfl) rfl c.b_tuple boot_tuple (dps_cons (dp (de_fr (df_lc (own := [("one", 2)]) rfl sc_parse_program.nd (di_any rfl (de_split (de_v (i := 0)) de_str)) (blk_of (by kernel_rfl)) (fun _ _ _ _ _ => (pg_name (i := 2) sc_parse_program.nd rfl (by first | exact .inl rfl | exact .inr rfl))) gt_n (fun _ _ _ _ _ => dts_nil) (fun _ _ _ _ _ => (de_call (k := 1) ⟨rfl, rfl, rfl⟩ o_word_of (hr.mono (by decide)) c.g_word_of c.k_word_of takesN0 (da_cons (de_v (i := 2)) da_nil)))))) dps_nil))))
    (dss_cons (ds_if (PW.pt (dw_or (dt_not (dt_val (dp (de_call (k := 3) ⟨rfl, rfl, rfl⟩ o_is_program (hr.mono (by decide)) c.g_is_program c.k_is_program tk (da_cons (de_v (i := 1)) da_nil))))) (dw_or1 (dt_neN ⟨rfl, rfl, rfl⟩ hu (dp (de_call (k := 1) ⟨rfl, rfl, rfl⟩ o_written_program (hr.mono (by decide)) c.g_written_program c.k_written_program tk (da_cons (de_v (i := 1)) da_nil))) (dp (de_v (i := 0))))))) (dss_one (ds_raiseC (c := 6) rfl tk c.e_InvalidText c.g_InvalidText)) dss_nil)
    (dss_one (ds_ret (de_v (i := 1))))))), Fd.bindsN fun _ _ _ _ _ _ us hl => match us, hl with | [_], _ => rfl⟩
abbrev s_left_out : Stmt := top 63
def fb_left_out : SSem := (sSeq (sExpr (eFn 1 g_need_program (aCons (eVar 0) aNil)))
  (sSeq (sIf (cNot (cVal (eFn 3 g_is_whole (aCons (eVar 1) (aCons (eC (.int 0)) (aCons (eOp gSubI (eCall dLenA (aCons (eVar 0) aNil)) (eC (.int 1))) aNil)))))) (sErr 7) sSkip)
  sStuck))
def g_left_out : List D → List D → Res D := fun ds γ => bodyR (fb_left_out (startE 2 ds) γ)
theorem sc_left_out : FnScope ["program", "at"] ["program", "at"] (defScope s_left_out) := ⟨rfl, rfl, rfl, by decide +kernel, rfl, by decide +kernel, by decide +kernel⟩
theorem ok_left_out {P : Program} {w : World} {K : PySem.W.Frag} {mg : Str → Option Value} {base : Heap} {f : Addr} {fd : FuncData} (c : Fc K w mg) (o_is_whole : Ok (CT P w K) mg base 1 3 (He.ga K "is_whole") g_is_whole) (o_need_program : Ok (CT P w K) mg base 4 1 (He.ga K "need_program") g_need_program) (Fd : FunD K "left_out" "left_out" (defArgs s_left_out) (defBody s_left_out) (defScope s_left_out) [] [] f fd) : Ok (CT P w K) mg base 5 2 f g_left_out := ⟨fd, ["program", "at"], by
  refine fn_dl (fb := fb_left_out) (C := CT P w K) Fd sc_left_out ?_ (fun _ _ _ _ => rfl)
  rintro ⟨_, F0, φ0, H0⟩ cdv A outer s H E rfl hr tk hp
  have hu := hr.units
  exact (dss_cons (ds_expr (de_call (k := 4) ⟨rfl, rfl, rfl⟩ o_need_program (hr.mono (by decide)) c.g_need_program c.k_need_program tk (da_cons (de_v (i := 0)) da_nil)))
    (dss_cons (ds_if (dt_not (dt_val (dp (de_call (k := 1) ⟨rfl, rfl, rfl⟩ o_is_whole (hr.mono (by decide)) c.g_is_whole c.k_is_whole tk (da_cons (de_v (i := 1)) (da_cons de_int (da_cons (de_subI (dp (de_len ⟨rfl, rfl, rfl⟩ c.b_len (dps_cons (dp (de_v (i := 0))) dps_nil))) (dp de_int)) da_nil))))))) (dss_one (ds_raiseC (c := 7) rfl tk c.e_InvalidPlace c.g_InvalidPlace)) dss_nil)
    dss_stuck)), Fd.bindsN fun _ _ _ _ _ _ us hl => match us, hl with | [_, _], _ => rfl⟩
abbrev s_Desk_redo : Stmt := (clsB (top 60)).getD 7 (.Pass ⟨0, 0, 0, 0⟩)
def fb_Desk_redo : SSem := (sSeq (sIf (cCmp dEqN (eFldC 1 1 (eVar 0)) (eLst (aLim 1000000 aNil))) (sErr 10) sSkip)
  sStuck)
def g_Desk_redo : List D → List D → Res D := fun ds γ => bodyR (fb_Desk_redo (startE 2 ds) γ)
theorem sc_Desk_redo : FnScope ["self", "found"] ["self"] (defScope s_Desk_redo) := ⟨rfl, rfl, rfl, by decide +kernel, rfl, by decide +kernel, by decide +kernel⟩
theorem ok_Desk_redo {P : Program} {w : World} {K : PySem.W.Frag} {mg : Str → Option Value} {base : Heap} {f : Addr} {fd : FuncData} (c : Fc K w mg) (Fd : FunD K "redo" "Desk.redo" (defArgs s_Desk_redo) (defBody s_Desk_redo) (defScope s_Desk_redo) [] [] f fd) : Ok (CT P w K) mg base 1 1 f g_Desk_redo := ⟨fd, ["self"], by
  refine fn_dl (fb := fb_Desk_redo) (C := CT P w K) Fd sc_Desk_redo ?_ (fun _ _ _ _ => rfl)
  rintro ⟨_, F0, φ0, H0⟩ cdv A outer s H E rfl hr tk hp
  have hu := hr.units
  exact (dss_cons (ds_if (dt_eqN ⟨rfl, rfl, rfl⟩ hu (dp (de_fldC (c := 1) (i := 1) (de_v (i := 0)) c.cl_Desk c.na_Desk_undone rfl)) (dp (de_fr (df_lst da_nil)))) (dss_one (ds_raiseC (c := 10) rfl tk c.e_NothingToUndo c.g_NothingToUndo)) dss_nil)
    dss_stuck), Fd.bindsN fun _ _ _ _ _ _ us hl => match us, hl with | [_], _ => rfl⟩
abbrev s__law_alone : Stmt := top 83
def fb__law_alone : SSem := (sSeq (sSet 2 (eLst (aLim 1000000 (aCons (eIsX okn (fun n => decide (n = 1)) (eVar 0)) (aCons (eIsX okn (fun n => decide (n = 2)) (eVar 0)) (aCons (eIsX okn (fun n => decide (n = 3)) (eVar 0)) aNil))))))
  (sSeq (sSet 2 (eOp gAddA (eVar 2) (eLst (aLim 1000000 (aCons (eIsX okn (fun n => decide (n = 4)) (eVar 0)) (aCons (eIsX okn (fun n => decide (n = 5)) (eVar 0)) aNil))))))
  (sSeq (sSet 2 (eOp gAddA (eVar 2) (eLst (aLim 1000000 (aCons (eIsX okn (fun n => decide (n = 6)) (eVar 0)) aNil)))))
  (sSeq (sSet 2 (eOp gAddA (eVar 2) (eLst (aLim 1000000 (aCons (eIsX okn (fun n => decide (n = 7)) (eVar 0)) (aCons (eIsX okn (fun n => decide (n = 8)) (eVar 0)) (aCons (eIsX okn (fun n => decide (n = 9)) (eVar 0)) aNil)))))))
  (sSeq (sSet 2 (eOp gAddA (eVar 2) (eLst (aLim 1000000 (aCons (eIsX okn (fun n => decide (n = 10)) (eVar 0)) aNil)))))
  (sRet (eAnd (eIsX okn (fun _ => true) (eVar 0)) (eCmp dEqN (eVar 2) (eLc (lRng1 (aCons (eC (.int 10)) aNil)) [3] (gtN 3) cYesS (eCmp dEqN (eVar 3) (eVar 1)))))))))))
def g__law_alone : List D → List D → Res D := fun ds γ => bodyR (fb__law_alone (startE 4 ds) γ)
theorem sc__law_alone : FnScope ["e", "own", "some", "at"] ["e", "own"] (defScope s__law_alone) := ⟨rfl, rfl, rfl, by decide +kernel, rfl, by decide +kernel, by decide +kernel⟩
theorem ok__law_alone {P : Program} {w : World} {K : PySem.W.Frag} {mg : Str → Option Value} {base : Heap} {f : Addr} {fd : FuncData} (c : Fc K w mg) (t : TermF K (fun c => He.ga K (excN c)) okl (He.ga K "StackError")) (Fd : FunD K "_law_alone" "_law_alone" (defArgs s__law_alone) (defBody s__law_alone) (defScope s__law_alone) [] [] f fd) : Ok (CT P w K) mg base 1 2 f g__law_alone := ⟨fd, ["e", "own"], by
  refine fn_dl (fb := fb__law_alone) (C := CT P w K) Fd sc__law_alone ?_ (fun _ _ _ _ => rfl)
  rintro ⟨_, F0, φ0, H0⟩ cdv A outer s H E rfl hr tk hp
  have hu := hr.units
  exact (dss_cons (ds_set (i := 2) sc__law_alone.nd rfl (by first | exact .inl rfl | exact .inr rfl) (de_fr (df_lst (da_cons (de_isX (okn := okn) c.b_isinstance (de_v (i := 0)) (pe_glob (v := .ref (He.ga K "InvalidProgram")) rfl c.g_InvalidProgram rfl) (fun _ r => r) (fun n hn => ⟨t.xc n (okn_mem hn), t.kit n (okn_mem hn) 1 (by decide)⟩)) (da_cons (de_isX (okn := okn) c.b_isinstance (de_v (i := 0)) (pe_glob (v := .ref (He.ga K "InvalidStack")) rfl c.g_InvalidStack rfl) (fun _ r => r) (fun n hn => ⟨t.xc n (okn_mem hn), t.kit n (okn_mem hn) 2 (by decide)⟩)) (da_cons (de_isX (okn := okn) c.b_isinstance (de_v (i := 0)) (pe_glob (v := .ref (He.ga K "InvalidBook")) rfl c.g_InvalidBook rfl) (fun _ r => r) (fun n hn => ⟨t.xc n (okn_mem hn), t.kit n (okn_mem hn) 3 (by decide)⟩)) da_nil))))))
    (dss_cons (ds_set (i := 2) sc__law_alone.nd rfl (by first | exact .inl rfl | exact .inr rfl) (de_addA rfl (dp (de_v (i := 2))) (dp (de_fr (df_lst (da_cons (de_isX (okn := okn) c.b_isinstance (de_v (i := 0)) (pe_glob (v := .ref (He.ga K "InvalidNumber")) rfl c.g_InvalidNumber rfl) (fun _ r => r) (fun n hn => ⟨t.xc n (okn_mem hn), t.kit n (okn_mem hn) 4 (by decide)⟩)) (da_cons (de_isX (okn := okn) c.b_isinstance (de_v (i := 0)) (pe_glob (v := .ref (He.ga K "InvalidShuffle")) rfl c.g_InvalidShuffle rfl) (fun _ r => r) (fun n hn => ⟨t.xc n (okn_mem hn), t.kit n (okn_mem hn) 5 (by decide)⟩)) da_nil)))))))
    (dss_cons (ds_set (i := 2) sc__law_alone.nd rfl (by first | exact .inl rfl | exact .inr rfl) (de_addA rfl (dp (de_v (i := 2))) (dp (de_fr (df_lst (da_cons (de_isX (okn := okn) c.b_isinstance (de_v (i := 0)) (pe_glob (v := .ref (He.ga K "InvalidText")) rfl c.g_InvalidText rfl) (fun _ r => r) (fun n hn => ⟨t.xc n (okn_mem hn), t.kit n (okn_mem hn) 6 (by decide)⟩)) da_nil))))))
    (dss_cons (ds_set (i := 2) sc__law_alone.nd rfl (by first | exact .inl rfl | exact .inr rfl) (de_addA rfl (dp (de_v (i := 2))) (dp (de_fr (df_lst (da_cons (de_isX (okn := okn) c.b_isinstance (de_v (i := 0)) (pe_glob (v := .ref (He.ga K "InvalidPlace")) rfl c.g_InvalidPlace rfl) (fun _ r => r) (fun n hn => ⟨t.xc n (okn_mem hn), t.kit n (okn_mem hn) 7 (by decide)⟩)) (da_cons (de_isX (okn := okn) c.b_isinstance (de_v (i := 0)) (pe_glob (v := .ref (He.ga K "TooFew")) rfl c.g_TooFew rfl) (fun _ r => r) (fun n hn => ⟨t.xc n (okn_mem hn), t.kit n (okn_mem hn) 8 (by decide)⟩)) (da_cons (de_isX (okn := okn) c.b_isinstance (de_v (i := 0)) (pe_glob (v := .ref (He.ga K "TooMany")) rfl c.g_TooMany rfl) (fun _ r => r) (fun n hn => ⟨t.xc n (okn_mem hn), t.kit n (okn_mem hn) 9 (by decide)⟩)) da_nil))))))))
    (dss_cons (ds_set (i := 2) sc__law_alone.nd rfl (by first | exact .inl rfl | exact .inr rfl) (de_addA rfl (dp (de_v (i := 2))) (dp (de_fr (df_lst (da_cons (de_isX (okn := okn) c.b_isinstance (de_v (i := 0)) (pe_glob (v := .ref (He.ga K "NothingToUndo")) rfl c.g_NothingToUndo rfl) (fun _ r => r) (fun n hn => ⟨t.xc n (okn_mem hn), t.kit n (okn_mem hn) 10 (by decide)⟩)) da_nil))))))
    (dss_one (ds_ret (de_and (dp (de_isX (okn := okn) c.b_isinstance (de_v (i := 0)) (pe_bltn (v := .ty "ValueError") rfl c.b_ValueError boot_ValueError rfl) (fun _ r => r) (fun n hn => ⟨t.xc n (okn_mem hn), t.ve n (okn_mem hn)⟩))) (de_one (de_eqN ⟨rfl, rfl, rfl⟩ hu (dp (de_v (i := 2))) (dp (de_fr (df_lc (own := [("at", 3)]) rfl sc__law_alone.nd (di_range1 rfl c.b_range (dps_cons (dp de_int) dps_nil)) (blk_of (by kernel_rfl)) (fun _ _ _ _ _ => (pg_name (i := 3) sc__law_alone.nd rfl (by first | exact .inl rfl | exact .inr rfl))) gt_n (fun _ _ _ _ _ => dts_nil) (fun _ _ _ _ _ => (de_eqN ⟨rfl, rfl, rfl⟩ hu (dp (de_v (i := 3))) (dp (de_v (i := 1)))))))))))))))))), Fd.bindsN fun _ _ _ _ _ _ us hl => match us, hl with | [_, _], _ => rfl⟩
abbrev s_Desk___init__ : Stmt := (clsB (top 60)).getD 0 (.Pass ⟨0, 0, 0, 0⟩)
def fb_Desk___init__ : SSem := (sSeq (sExpr (eFn 1 g_need_program (aCons (eVar 1) aNil)))
  (sSeq (sFldC 1 0 (eVar 0) (eLst (aLim 1000000 (aCons (eVar 1) aNil))))
  (sFldC 1 1 (eVar 0) (eLst (aLim 1000000 aNil)))))
def g_Desk___init__ : List D → List D → Res D := fun ds γ => bodyR (fb_Desk___init__ (startE 2 ds) γ)
theorem sc_Desk___init__ : FnScope ["self", "program"] ["self", "program"] (defScope s_Desk___init__) := ⟨rfl, rfl, rfl, by decide +kernel, rfl, by decide +kernel, by decide +kernel⟩
theorem ok_Desk___init__ {P : Program} {w : World} {K : PySem.W.Frag} {mg : Str → Option Value} {base : Heap} {f : Addr} {fd : FuncData} (c : Fc K w mg) (o_need_program : Ok (CT P w K) mg base 4 1 (He.ga K "need_program") g_need_program) (Fd : FunD K "__init__" "Desk.__init__" (defArgs s_Desk___init__) (defBody s_Desk___init__) (defScope s_Desk___init__) [] [] f fd) : Ok (CT P w K) mg base 5 2 f g_Desk___init__ := ⟨fd, ["self", "program"], by
  refine fn_dl (fb := fb_Desk___init__) (C := CT P w K) Fd sc_Desk___init__ ?_ (fun _ _ _ _ => rfl)
  rintro ⟨_, F0, φ0, H0⟩ cdv A outer s H E rfl hr tk hp
  have hu := hr.units
  exact (dss_cons (ds_expr (de_call (k := 4) ⟨rfl, rfl, rfl⟩ o_need_program (hr.mono (by decide)) c.g_need_program c.k_need_program tk (da_cons (de_v (i := 1)) da_nil)))
    (dss_cons (ds_fldC (c := 1) (i := 0) (de_v (i := 0)) (de_fr (df_lst (da_cons (de_v (i := 1)) da_nil))) c.cl_Desk c.na_Desk_rows rfl (by show (fldN 1).length < 1000; decide))
    (dss_one (ds_fldC (c := 1) (i := 1) (de_v (i := 0)) (de_fr (df_lst da_nil)) c.cl_Desk c.na_Desk_undone rfl (by show (fldN 1).length < 1000; decide))))), Fd.bindsN fun _ _ _ _ _ _ us hl => match us, hl with | [_, _], _ => rfl⟩
abbrev s_law : Stmt := top 84
def q0 : SSem := (sSet 2 (eOp gAddA (eC (.int 10)) (eFn 2 g__law_roll (aCons (eVar 1) (aCons (eC (.int 90)) aNil)))))
def q1 : SSem := (sNew 3 (eLst (aLim 1000000 (aCons (eMet okn (eFn 1 g_form (aCons (eTup (aLim 1000000 (aCons (eVar 2) aNil))) aNil))) aNil))))
def q2 : SSem := (sApp 3 (eMet okn (eFn 2 g_run (aCons (eTup (aLim 1000000 aNil)) (aCons (eVar 2) aNil)))))
def q3 : SSem := (sApp 3 (eMet okn (eFn 1 g_uses (aCons (eTup (aLim 1000000 (aCons (eVar 2) aNil))) aNil))))
def q4 : SSem := (sApp 3 (eMet okn (eFn 1 g_count_shuffles (aCons (eVar 2) aNil))))
def q5 : SSem := (sApp 3 (eMet okn (eFn 3 g_shuffle_words (aCons (eC (.int 1)) (aCons (eTup (aLim 1000000 (aCons (eVar 2) aNil))) (aCons (eC (.int 1)) aNil))))))
def q6 : SSem := (sApp 3 (eMet okn (eFn 1 g_parse_program (aCons (eCall dStrA (aCons (eVar 2) aNil)) aNil))))
def q7 : SSem := (sApp 3 (eMet okn (eFn 2 g_left_out (aCons (eTup (aLim 1000000 aNil)) (aCons (eVar 2) aNil)))))
def q8 : SSem := (sApp 3 (eMet okn (eFn 2 g_run (aCons (eTup (aLim 1000000 (aCons (eC (.str "drop")) aNil))) (aCons (eTup (aLim 1000000 aNil)) aNil)))))
def q9 : SSem := (sApp 3 (eMet okn (eFn 1 g_form (aCons (eOp gMulA (eTup (aLim 1000000 (aCons (eC (.str "dup")) (aCons (eC (.str "mul")) aNil)))) (eC (.int 5))) aNil))))
def q10 : SSem := (sApp 3 (eMet okn (eMethC0 1 1 g_Desk_redo (eMakeC 1 2 g_Desk___init__ (aCons (eTup (aLim 1000000 aNil)) aNil)))))
def q11 : SSem := (sGive 3 (sIf (cNot (cVal (eCall dAll (aCons (eLc (lEnum (aCons (eVar 3) aNil)) [4, 5] (gtP 4 5) cYesS (eFn 2 g__law_alone (aCons (eVar 5) (aCons (eVar 4) aNil)))) aNil)))) (sRet (eC (.bl false))) sSkip))
def q12 : SSem := (sSeq q0
  (sSeq q1
  (sSeq q2
  (sSeq q3
  (sSeq q4
  (sSeq q5
  (sSeq q6
  (sSeq q7
  (sSeq q8
  (sSeq q9
  (sSeq q10
  q11)))))))))))
def q13 : SSem := (sFor (lAny (eFn 2 g__law_rounds (aCons (eVar 0) (aCons (eC (.int 4)) aNil)))) (gtN 1) q12)
def fb_law : SSem := (sSeq q13
  (sRet (eC (.bl true))))
def g_law : List D → List D → Res D := fun ds γ => bodyR (fb_law (startE 6 ds) γ)
theorem sc_law : FnScope ["script", "dice", "great", "made", "at", "e"] ["script"] (defScope s_law) := ⟨rfl, rfl, rfl, by decide +kernel, rfl, by decide +kernel, by decide +kernel⟩
theorem ok_law {P : Program} {w : World} {K : PySem.W.Frag} {mg : Str → Option Value} {base : Heap} {fd : FuncData} (c : Fc K w mg) (o_Desk___init__ : Ok (CT P w K) mg base 5 2 (He.ma K (He.ga K "Desk") "__init__") g_Desk___init__) (o_Desk_redo : Ok (CT P w K) mg base 1 1 (He.ma K (He.ga K "Desk") "redo") g_Desk_redo) (o__law_alone : Ok (CT P w K) mg base 1 2 (He.ga K "_law_alone") g__law_alone) (o__law_met : ∀ k, MetOk (CT P w K) mg base (k + 1) (He.ga K "_law_met") okn) (o__law_roll : Ok (CT P w K) mg base 2 2 (He.ga K "_law_roll") g__law_roll) (o__law_rounds : Ok (CT P w K) mg base 2 2 (He.ga K "_law_rounds") g__law_rounds) (o_count_shuffles : Ok (CT P w K) mg base 3 1 (He.ga K "count_shuffles") g_count_shuffles) (o_form : Ok (CT P w K) mg base 7 1 (He.ga K "form") g_form) (o_left_out : Ok (CT P w K) mg base 5 2 (He.ga K "left_out") g_left_out) (o_parse_program : Ok (CT P w K) mg base 4 1 (He.ga K "parse_program") g_parse_program) (o_run : Ok (CT P w K) mg base 5 2 (He.ga K "run") g_run) (o_shuffle_words : Ok (CT P w K) mg base 3 3 (He.ga K "shuffle_words") g_shuffle_words) (o_uses : Ok (CT P w K) mg base 4 1 (He.ga K "uses") g_uses) (TB : LamX.TabB base mg (He.cT K ("law", none)).1 (He.cT K ("law", none)).2) (Fd : FunD K "law" "law" (defArgs s_law) (defBody s_law) (defScope s_law) [] [] (He.ga K "law") fd) : FnOk P w K mg base (L2N.CX P w) 10 (He.ga K "law") fd ["script"] (spM (CT P w K) 1 g_law) := by
  have tabU : ∀ p ∈ (CT P w K).T, p.1 = (He.cT K ("law", none)).2 → p.2 = ("law.<locals>." : Str) ++ "<lambda>" := fun p hp _ => by rw [List.mem_singleton.mp hp]
  refine fn_dlC (fb := fb_law) (C := CT P w K) (c := (He.cT K ("law", none)).1) Fd (code_of (p := ("law", none)) Fd) sc_law ?_ (fun _ _ _ _ => rfl)
  rintro ⟨_, F0, φ0, H0⟩ A outer s H E rfl hr tk hp
  have hu := hr.units
  exact (dss_cons (ds_for hp rfl (di_any rfl (de_call (k := 2) ⟨rfl, rfl, rfl⟩ o__law_rounds (hr.mono (by decide)) c.g__law_rounds c.k__law_rounds tk (da_cons (de_v (i := 0)) (da_cons de_int da_nil)))) (pg_name (i := 1) sc_law.nd rfl (by first | exact .inl rfl | exact .inr rfl)) gt_n (dss_cons (ds_set (i := 2) sc_law.nd rfl (by first | exact .inl rfl | exact .inr rfl) (de_addA rfl (dp de_int) (dp (de_call (k := 2) ⟨rfl, rfl, rfl⟩ o__law_roll (hr.mono (by decide)) c.g__law_roll c.k__law_roll tk (da_cons (de_v (i := 1)) (da_cons de_int da_nil))))))
    (dss_cons (ds_new (i := 3) sc_law.nd rfl (by first | exact .inl rfl | exact .inr rfl) (df_lst (da_cons (de_met (k := 7) ⟨rfl, rfl, rfl⟩ (o__law_met 7) c.g__law_met c.k__law_met TB rfl (.head _) tabU (hr.mono (by decide)) (LamX.lamS_by (by kernel_rfl)) (fun A outer s H E f c' hr => have hu := hr.units; (de_call (k := 7) ⟨rfl, rfl, rfl⟩ o_form (hr.mono (by decide)) c.g_form c.k_form lamN_takes (da_cons (de_tup (da_cons (de_v (i := 2)) da_nil)) da_nil)))) da_nil)))
    (dss_cons (ds_app (i := 3) rfl (by first | exact .inl rfl | exact .inr (.inl rfl)) (de_met (k := 5) ⟨rfl, rfl, rfl⟩ (o__law_met 5) c.g__law_met c.k__law_met TB rfl (.head _) tabU (hr.mono (by decide)) (LamX.lamS_by (by kernel_rfl)) (fun A outer s H E f c' hr => have hu := hr.units; (de_call (k := 5) ⟨rfl, rfl, rfl⟩ o_run (hr.mono (by decide)) c.g_run c.k_run lamN_takes (da_cons (de_tup da_nil) (da_cons (de_v (i := 2)) da_nil))))))
    (dss_cons (ds_app (i := 3) rfl (by first | exact .inl rfl | exact .inr (.inl rfl)) (de_met (k := 4) ⟨rfl, rfl, rfl⟩ (o__law_met 4) c.g__law_met c.k__law_met TB rfl (.head _) tabU (hr.mono (by decide)) (LamX.lamS_by (by kernel_rfl)) (fun A outer s H E f c' hr => have hu := hr.units; (de_call (k := 4) ⟨rfl, rfl, rfl⟩ o_uses (hr.mono (by decide)) c.g_uses c.k_uses lamN_takes (da_cons (de_tup (da_cons (de_v (i := 2)) da_nil)) da_nil)))))
    (dss_cons (ds_app (i := 3) rfl (by first | exact .inl rfl | exact .inr (.inl rfl)) (de_met (k := 3) ⟨rfl, rfl, rfl⟩ (o__law_met 3) c.g__law_met c.k__law_met TB rfl (.head _) tabU (hr.mono (by decide)) (LamX.lamS_by (by kernel_rfl)) (fun A outer s H E f c' hr => have hu := hr.units; (de_call (k := 3) ⟨rfl, rfl, rfl⟩ o_count_shuffles (hr.mono (by decide)) c.g_count_shuffles c.k_count_shuffles lamN_takes (da_cons (de_v (i := 2)) da_nil)))))
    (dss_cons (ds_app (i := 3) rfl (by first | exact .inl rfl | exact .inr (.inl rfl)) (de_met (k := 3) ⟨rfl, rfl, rfl⟩ (o__law_met 3) c.g__law_met c.k__law_met TB rfl (.head _) tabU (hr.mono (by decide)) (LamX.lamS_by (by kernel_rfl)) (fun A outer s H E f c' hr => have hu := hr.units; (de_call (k := 3) ⟨rfl, rfl, rfl⟩ o_shuffle_words (hr.mono (by decide)) c.g_shuffle_words c.k_shuffle_words lamN_takes (da_cons de_int (da_cons (de_tup (da_cons (de_v (i := 2)) da_nil)) (da_cons de_int da_nil)))))))
    (dss_cons (ds_app (i := 3) rfl (by first | exact .inl rfl | exact .inr (.inl rfl)) (de_met (k := 4) ⟨rfl, rfl, rfl⟩ (o__law_met 4) c.g__law_met c.k__law_met TB rfl (.head _) tabU (hr.mono (by decide)) (LamX.lamS_by (by kernel_rfl)) (fun A outer s H E f c' hr => have hu := hr.units; (de_call (k := 4) ⟨rfl, rfl, rfl⟩ o_parse_program (hr.mono (by decide)) c.g_parse_program c.k_parse_program lamN_takes (da_cons (de_callT call_strA cd_strA rfl c.b_str boot_str (dps_cons (dp (de_v (i := 2))) dps_nil)) da_nil)))))
    (dss_cons (ds_app (i := 3) rfl (by first | exact .inl rfl | exact .inr (.inl rfl)) (de_met (k := 5) ⟨rfl, rfl, rfl⟩ (o__law_met 5) c.g__law_met c.k__law_met TB rfl (.head _) tabU (hr.mono (by decide)) (LamX.lamS_by (by kernel_rfl)) (fun A outer s H E f c' hr => have hu := hr.units; (de_call (k := 5) ⟨rfl, rfl, rfl⟩ o_left_out (hr.mono (by decide)) c.g_left_out c.k_left_out lamN_takes (da_cons (de_tup da_nil) (da_cons (de_v (i := 2)) da_nil))))))
    (dss_cons (ds_app (i := 3) rfl (by first | exact .inl rfl | exact .inr (.inl rfl)) (de_met (k := 5) ⟨rfl, rfl, rfl⟩ (o__law_met 5) c.g__law_met c.k__law_met TB rfl (.head _) tabU (hr.mono (by decide)) (LamX.lamS_by (by kernel_rfl)) (fun A outer s H E f c' hr => have hu := hr.units; (de_call (k := 5) ⟨rfl, rfl, rfl⟩ o_run (hr.mono (by decide)) c.g_run c.k_run lamN_takes (da_cons (de_tup (da_cons de_str da_nil)) (da_cons (de_tup da_nil) da_nil))))))
    (dss_cons (ds_app (i := 3) rfl (by first | exact .inl rfl | exact .inr (.inl rfl)) (de_met (k := 7) ⟨rfl, rfl, rfl⟩ (o__law_met 7) c.g__law_met c.k__law_met TB rfl (.head _) tabU (hr.mono (by decide)) (LamX.lamS_by (by kernel_rfl)) (fun A outer s H E f c' hr => have hu := hr.units; (de_call (k := 7) ⟨rfl, rfl, rfl⟩ o_form (hr.mono (by decide)) c.g_form c.k_form lamN_takes (da_cons (de_mulA rfl (dp (de_tup (da_cons de_str (da_cons de_str da_nil)))) (dp de_int)) da_nil)))))
    (dss_cons (ds_app (i := 3) rfl (by first | exact .inl rfl | exact .inr (.inl rfl)) (de_met (k := 6) ⟨rfl, rfl, rfl⟩ (o__law_met 6) c.g__law_met c.k__law_met TB rfl (.head _) tabU (hr.mono (by decide)) (LamX.lamS_by (by kernel_rfl)) (fun A outer s H E f c' hr => have hu := hr.units; (de_callMC0 (c := 1) (k := 1) ⟨rfl, rfl, rfl⟩ (de_makeC (c := 1) (k := 5) ⟨rfl, rfl, rfl⟩ c.mk_Desk o_Desk___init__ (hr.mono (by decide)) c.g_Desk lamN_takes (da_cons (de_tup da_nil) da_nil)) c.cl_Desk c.m_Desk_redo nf_Desk_redo o_Desk_redo (hr.mono (by decide)) lamN_takes))))
    (dss_one (ds_give 3 (ds_if (dt_not (dt_val (dp (de_callB (cr_all rfl) (cd_all rfl) rfl c.b_all boot_all (dps_cons (dp (de_fr (df_lc (own := [("at", 4), ("e", 5)]) rfl sc_law.nd (di_enum rfl c.b_enumerate (da_cons (de_v (i := 3)) da_nil)) (blk_of (by kernel_rfl)) (fun _ _ _ _ _ => (pg_tl rfl (pgs_cons (pg_name (i := 4) sc_law.nd rfl (by first | exact .inl rfl | exact .inr rfl)) (pgs_cons (pg_name (i := 5) sc_law.nd rfl (by first | exact .inl rfl | exact .inr rfl)) pgs_nil)))) (gt_p rfl) (fun _ _ _ _ _ => dts_nil) (fun _ _ _ _ _ => (de_call (k := 1) ⟨rfl, rfl, rfl⟩ o__law_alone (hr.mono (by decide)) c.g__law_alone c.k__law_alone takesN0 (da_cons (de_v (i := 5)) (da_cons (de_v (i := 4)) da_nil))))))) dps_nil))))) (dss_one (ds_ret de_bl)) dss_nil)))))))))))))))
    (dss_one (ds_ret de_bl)))
end K13

/-! DLp: what every law of this family draws from the script: cells and rolls, in plain Lean -/
namespace DL
open PySem PySem.Spec PyProof.Rows L2
def fbCell : SSem := (sSeq (sIf (cCmp dEqN (eVar 0) (eLst (aLim 1000000 aNil))) (sRet (eOp gMulA (eVar 1) (eC (.int 7919)))) sSkip)
  (sRet (eOp gAddA (eSubA (eVar 0) (eOp gModI (eVar 1) (eCall dLenA (aCons (eVar 0) aNil)))) (eOp gMulA (eOp gDivI (eVar 1) (eCall dLenA (aCons (eVar 0) aNil))) (eC (.int 104729))))))
def gCell : List D → List D → Res D := fun ds γ => bodyR (fbCell (startE 2 ds) γ)
def fbDrawn : SSem := (sSeq (sSet 2 (eOp gModI (eOp gAddA (eOp gMulA (eVar 0) (eC (.int 6364136223846793005))) (eOp gMulA (eOp gAddA (eVar 1) (eC (.int 1))) (eC (.int 1442695040888963407)))) (eC (.int 340282366920938463463374607431768211507))))
  (sSeq (sSet 2 (eOp gModI (eOp gMulA (eVar 2) (eVar 2)) (eC (.int 340282366920938463463374607431768211297))))
  (sSeq (sSet 2 (eOp gMulA (eOp gMulA (eOp gAddA (eOp gModI (eVar 2) (eC (.int 18446744073709551557))) (eC (.int 1))) (eOp gAddA (eOp gDivI (eVar 2) (eC (.int 18446744073709551557))) (eC (.int 1)))) (eVar 2)))
  (sRet (eOp gModI (eVar 2) (eC (.int 340282366920938463463374607431768211507)))))))
def gDrawn : List D → List D → Res D := fun ds γ => bodyR (fbDrawn (startE 3 ds) γ)
def fbRoll : SSem := (sSeq (sIf (cCmp bGe (eSubA (eVar 0) (eC (.int 0))) (eOp gPowI (eC (.int 10)) (eC (.int 18)))) (sSeq (sSet 2 (eOp gModI (eSubA (eVar 0) (eC (.int 0))) (eVar 1)))
  (sSeq (sSetC (eVar 0) (eC (.int 0)) (eOp gDivI (eSubA (eVar 0) (eC (.int 0))) (eVar 1)))
  (sRet (eVar 2)))) sSkip)
  (sSeq (sSetC (eVar 0) (eC (.int 1)) (eOp gAddA (eSubA (eVar 0) (eC (.int 1))) (eC (.int 1))))
  (sRet (eOp gModI (eOp gDivI (eFn 2 gDrawn (aCons (eSubA (eVar 0) (eC (.int 0))) (aCons (eSubA (eVar 0) (eC (.int 1))) aNil))) (eC (.int 8))) (eVar 1)))))
def gRoll : List D → List D → Res D := fun ds γ => bodyR (fbRoll (startE 3 ds) γ)
def fbRounds : SSem := (sRet (eLc (lRng1 (aCons (eCall dMax (aCons (eC (.int 1)) (aCons (eCall dMin (aCons (eVar 1) (aCons (eCall dLenA (aCons (eVar 0) aNil)) aNil))) aNil))) aNil)) [2] (gtN 2) cYesS (eCell (aCons (eFn 2 gCell (aCons (eVar 0) (aCons (eVar 2) aNil))) (aCons (eC (.int 0)) aNil)))))
def gRounds : List D → List D → Res D := fun ds γ => bodyR (fbRounds (startE 3 ds) γ)
theorem eOp_ok {g : D → D → Option D} {fa fb : ESem} {ρ : Env} {γ γ1 γ2 : List D} {x y d : D} (h1 : fa ρ γ = .ok x γ1) (h2 : fb ρ γ1 = .ok y γ2) (h3 : g x y = some d) : eOp g fa fb ρ γ = .ok d γ2 := by
  simp only [eOp, h1, h2, h3, Res.bind_ok, ofOpt_some]
theorem sSet_ok {i : Nat} {f : ESem} {ρ : Env} {γ γ1 : List D} {d : D} (h : f ρ γ = .ok d γ1) : sSet i f ρ γ = .nx (ρ.set i (some d)) γ1 := by
  simp only [sSet, h, toOut_ok]
theorem sRet_ok {f : ESem} {ρ : Env} {γ γ1 : List D} {d : D} (h : f ρ γ = .ok d γ1) : sRet f ρ γ = .rt d γ1 := by
  simp only [sRet, h, toOut_ok]
theorem sSeq_ok {f g : SSem} {ρ ρ1 : Env} {γ γ1 : List D} (h : f ρ γ = .nx ρ1 γ1) : sSeq f g ρ γ = g ρ1 γ1 := by
  simp only [sSeq, h]
theorem sSeq_rt {f g : SSem} {ρ : Env} {γ γ1 : List D} {d : D} (h : f ρ γ = .rt d γ1) : sSeq f g ρ γ = .rt d γ1 := by
  simp only [sSeq, h]
theorem sIf_ok {c : CSem} {f g : SSem} {ρ : Env} {γ γ1 : List D} {k : Bool} (h : c ρ γ = .ok k γ1) : sIf c f g ρ γ = if k = true then f ρ γ1 else g ρ γ1 := by
  simp only [sIf, h, toOut_ok]
theorem acons_ok {f : ESem} {fs : Env → List D → Res (List D)} {ρ : Env} {γ γ1 γ2 : List D} {d : D} {ds : List D} (h : f ρ γ = .ok d γ1) (h2 : fs ρ γ1 = .ok ds γ2) : aCons f fs ρ γ = .ok (d :: ds) γ2 := by
  simp only [aCons, h, h2, Res.bind_ok]
theorem fn_ok {n : Nat} {g : List D → List D → Res D} {fs : LSem} {ρ : Env} {γ γ1 γ2 : List D} {d : D} {ds : List D} (h : fs ρ γ = .ok ds γ1) (hl : ds.length = n) (h2 : g ds γ1 = .ok d γ2) : eFn n g fs ρ γ = .ok d γ2 := by
  simp only [eFn, h, Res.bind_ok, if_pos hl, h2]
theorem setC_ok {fo fi fv : ESem} {ρ : Env} {γ γ1 γ2 γ3 : List D} {v : D} {n j : Nat} {k : Int} {ds : List D} (h1 : fv ρ γ = .ok v γ1) (h2 : fo ρ γ1 = .ok (.cell n) γ2) (h3 : fi ρ γ2 = .ok (.int k) γ3) (h4 : γ3[n]? = some (.lst ds)) (h5 : ixN ds.length k = some j) : sSetC fo fi fv ρ γ = .nx ρ (γ3.set n (.lst (ds.set j v))) := by
  simp only [sSetC, h1, h2, h3, h4, h5, toOut_ok]
theorem cMul_r {i j : Int} (h1 : -(2 ^ 64) < j) (h2 : j < 2 ^ 64) : cMul i j = true := by
  unfold cMul
  rw [decide_eq_true h1, decide_eq_true h2]
  simp
theorem cMul_b {i j : Int} {a b : Nat} (h1 : i.natAbs < 2 ^ a) (h2 : j.natAbs < 2 ^ b) (ha : a ≤ 5000) (hb : b ≤ 5000) : cMul i j = true := by
  unfold cMul
  rw [decide_eq_true (Nat.lt_of_lt_of_le h1 (Nat.pow_le_pow_right (by decide) ha)), decide_eq_true (Nat.lt_of_lt_of_le h2 (Nat.pow_le_pow_right (by decide) hb))]
  rfl
theorem gMul_i {i j : Int} (h : cMul i j = true) : gMulA (.int i) (.int j) = some (.int (i * j)) := by
  show ((if cMul i j = true then some (D.int (i * j)) else none).or _) = _
  rw [if_pos h]
  rfl
theorem gMod_i {i j : Int} (h : 0 < j) : gModI (.int i) (.int j) = some (.int (i % j)) := by
  show (if cMod i j = true then some (D.int (i % j)) else none) = _
  rw [if_pos (show cMod i j = true from decide_eq_true h)]
theorem gDiv_i {i j : Int} (h : 0 < j) (h2 : j < 2 ^ 100) : gDivI (.int i) (.int j) = some (.int (i / j)) := by
  show (if cDiv i j = true then some (D.int (i / j)) else none) = _
  rw [if_pos]
  unfold cDiv
  rw [decide_eq_true h, decide_eq_true]
  · rfl
  · refine Nat.lt_of_lt_of_le (m := 2 ^ 100) ?_ (Nat.pow_le_pow_right (by decide) (by decide))
    omega
theorem natAbs_small {i : Int} {n : Nat} (h0 : 0 ≤ i) (h : i < ((2 ^ n : Nat) : Int)) : i.natAbs < 2 ^ n := by omega
theorem drawn_ok (x y : Int) (γ : List D) : ∃ r : Int, gDrawn [.int x, .int y] γ = .ok (.int r) γ ∧ 0 ≤ r := by
  have hM : (0 : Int) < 340282366920938463463374607431768211507 := by decide
  have hM2 : (0 : Int) < 340282366920938463463374607431768211297 := by decide
  have hC : (0 : Int) < 18446744073709551557 := by decide
  obtain ⟨a, ha⟩ : ∃ a, a = (x * 6364136223846793005 + (y + 1) * 1442695040888963407) % 340282366920938463463374607431768211507 := ⟨_, rfl⟩
  have a0 : 0 ≤ a := by rw [ha]; exact Int.emod_nonneg _ (by decide)
  have a1 : a < 340282366920938463463374607431768211507 := by rw [ha]; exact Int.emod_lt_of_pos _ hM
  obtain ⟨b, hb⟩ : ∃ b, b = a * a % 340282366920938463463374607431768211297 := ⟨_, rfl⟩
  have b0 : 0 ≤ b := by rw [hb]; exact Int.emod_nonneg _ (by decide)
  have b1 : b < 340282366920938463463374607431768211297 := by rw [hb]; exact Int.emod_lt_of_pos _ hM2
  have n1 : a.natAbs < 2 ^ 130 := natAbs_small a0 (by omega)
  have n2 : b.natAbs < 2 ^ 130 := natAbs_small b0 (by omega)
  have n3 : (b % 18446744073709551557 + 1).natAbs < 2 ^ 70 := by
    have := Int.emod_nonneg b (show (18446744073709551557 : Int) ≠ 0 by decide)
    have := Int.emod_lt_of_pos b hC
    exact natAbs_small (by omega) (by omega)
  have n4 : (b / 18446744073709551557 + 1).natAbs < 2 ^ 131 := by
    have h0 : 0 ≤ b / 18446744073709551557 := Int.ediv_nonneg b0 (by decide)
    have h1 : b / 18446744073709551557 ≤ b := Int.ediv_le_self _ b0
    exact natAbs_small (by omega) (by omega)
  have n5 : ((b % 18446744073709551557 + 1) * (b / 18446744073709551557 + 1)).natAbs < 2 ^ 201 := by
    rw [Int.natAbs_mul, show 201 = 70 + 131 from rfl, Nat.pow_add]
    exact Nat.mul_lt_mul'' n3 n4
  refine ⟨(b % 18446744073709551557 + 1) * (b / 18446744073709551557 + 1) * b % 340282366920938463463374607431768211507, ?_, Int.emod_nonneg _ (by decide)⟩
  have e1 : sSet 2 (eOp gModI (eOp gAddA (eOp gMulA (eVar 0) (eC (.int 6364136223846793005))) (eOp gMulA (eOp gAddA (eVar 1) (eC (.int 1))) (eC (.int 1442695040888963407)))) (eC (.int 340282366920938463463374607431768211507))) [some (.int x), some (.int y), none] γ = .nx [some (.int x), some (.int y), some (.int a)] γ := by
    rw [ha]
    exact sSet_ok (eOp_ok (eOp_ok (eOp_ok rfl rfl (gMul_i (cMul_r (by decide) (by decide)))) (eOp_ok (eOp_ok rfl rfl rfl) rfl (gMul_i (cMul_r (by decide) (by decide)))) rfl) rfl (gMod_i hM))
  have e2 : sSet 2 (eOp gModI (eOp gMulA (eVar 2) (eVar 2)) (eC (.int 340282366920938463463374607431768211297))) [some (.int x), some (.int y), some (.int a)] γ = .nx [some (.int x), some (.int y), some (.int b)] γ := by
    rw [hb]
    exact sSet_ok (eOp_ok (eOp_ok rfl rfl (gMul_i (cMul_b n1 n1 (by decide) (by decide)))) rfl (gMod_i hM2))
  have e3 : sSet 2 (eOp gMulA (eOp gMulA (eOp gAddA (eOp gModI (eVar 2) (eC (.int 18446744073709551557))) (eC (.int 1))) (eOp gAddA (eOp gDivI (eVar 2) (eC (.int 18446744073709551557))) (eC (.int 1)))) (eVar 2)) [some (.int x), some (.int y), some (.int b)] γ = .nx [some (.int x), some (.int y), some (.int ((b % 18446744073709551557 + 1) * (b / 18446744073709551557 + 1) * b))] γ :=
    sSet_ok (eOp_ok (eOp_ok (eOp_ok (eOp_ok rfl rfl (gMod_i hC)) rfl rfl) (eOp_ok (eOp_ok rfl rfl (gDiv_i hC (by decide))) rfl rfl) (gMul_i (cMul_b n3 n4 (by decide) (by decide)))) rfl (gMul_i (cMul_b n5 n2 (by decide) (by decide))))
  show bodyR (fbDrawn [some (.int x), some (.int y), none] γ) = _
  rw [fbDrawn, sSeq_ok e1, sSeq_ok e2, sSeq_ok e3, sRet_ok (eOp_ok rfl rfl (gMod_i hM))]
  rfl
/-- the cells are pairs of ints -/
def Cells (γ : List D) : Prop := ∀ (n : Nat) (d : D), γ[n]? = some d → ∃ a b : Int, d = .lst [.int a, .int b]
theorem cells_set {γ : List D} (h : Cells γ) {n : Nat} {a b : Int} : Cells (γ.set n (.lst [.int a, .int b])) := by
  intro m d e
  rcases get_set e with ⟨_, rfl, _⟩ | ⟨_, e⟩
  · exact ⟨a, b, rfl⟩
  · exact h m d e
theorem ix_ok {ρ : Env} {γ : List D} {n : Nat} {a b : Int} {fo : ESem} (h0 : fo ρ γ = .ok (.cell n) γ) (h : γ[n]? = some (.lst [.int a, .int b])) : eSubA fo (eC (.int 0)) ρ γ = .ok (.int a) γ ∧ eSubA fo (eC (.int 1)) ρ γ = .ok (.int b) γ := by
  constructor
  · simp only [eSubA, byD, h0, D.isCell, if_true, eIxC, Res.bind_ok, eC, h]
    rfl
  · simp only [eSubA, byD, h0, D.isCell, if_true, eIxC, Res.bind_ok, eC, h]
    rfl
theorem roll_ok {γ : List D} (hγ : Cells γ) {n : Nat} (hn : n < γ.length) {m : Int} (hm : 0 < m) (hm2 : m < 2 ^ 100) : ∃ (r : Int) (γ' : List D), gRoll [.cell n, .int m] γ = .ok (.int r) γ' ∧ 0 ≤ r ∧ r < m ∧ Cells γ' ∧ γ'.length = γ.length := by
  obtain ⟨a, b, hab⟩ := hγ n _ (List.getElem?_eq_getElem hn)
  have h : γ[n]? = some (.lst [.int a, .int b]) := by rw [List.getElem?_eq_getElem hn, hab]
  have v0 : ∀ (γ : List D) (x : Option D), eVar 0 [some (.cell n), some (.int m), x] γ = .ok (.cell n) γ := fun _ _ => rfl
  have i0 := fun x => (ix_ok (v0 γ x) h).1
  have i1 := fun x => (ix_ok (v0 γ x) h).2
  show ∃ (r : Int) (γ' : List D), bodyR (fbRoll [some (.cell n), some (.int m), none] γ) = .ok (.int r) γ' ∧ _
  have hc : cCmp bGe (eSubA (eVar 0) (eC (.int 0))) (eOp gPowI (eC (.int 10)) (eC (.int 18))) [some (.cell n), some (.int m), none] γ = .ok (decide ((10 : Int) ^ 18 ≤ a)) γ := by
    simp only [cCmp, i0, Res.bind_ok]
    rfl
  by_cases hb : (10 : Int) ^ 18 ≤ a
  · refine ⟨a % m, γ.set n (.lst [.int (a / m), .int b]), ?_, Int.emod_nonneg _ (by omega), Int.emod_lt_of_pos _ hm, cells_set hγ, by simp⟩
    rw [fbRoll, sSeq_rt (d := .int (a % m)) (γ1 := γ.set n (.lst [.int (a / m), .int b]))]
    · rfl
    · rw [sIf_ok hc, decide_eq_true hb, if_pos rfl, sSeq_ok (sSet_ok (eOp_ok (i0 none) rfl (gMod_i hm)))]
      show sSeq _ _ [some (.cell n), some (.int m), some (.int (a % m))] γ = _
      rw [sSeq_ok (ρ1 := [some (.cell n), some (.int m), some (.int (a % m))]) (γ1 := γ.set n (.lst [.int (a / m), .int b]))]
      · rfl
      · exact setC_ok (k := 0) (j := 0) (eOp_ok (i0 _) rfl (gDiv_i hm hm2)) rfl rfl h (by rfl)
  · have hset : (γ.set n (.lst [.int a, .int (b + 1)]))[n]? = some (.lst [.int a, .int (b + 1)]) := List.getElem?_set_self hn
    obtain ⟨r, hr, hr0⟩ := drawn_ok a (b + 1) (γ.set n (.lst [.int a, .int (b + 1)]))
    refine ⟨r / 8 % m, γ.set n (.lst [.int a, .int (b + 1)]), ?_, Int.emod_nonneg _ (by omega), Int.emod_lt_of_pos _ hm, cells_set hγ, by simp⟩
    have j0 := (ix_ok (v0 (γ.set n (.lst [.int a, .int (b + 1)])) none) hset).1
    have j1 := (ix_ok (v0 (γ.set n (.lst [.int a, .int (b + 1)])) none) hset).2
    have hd : eOp gModI (eOp gDivI (eFn 2 gDrawn (aCons (eSubA (eVar 0) (eC (.int 0))) (aCons (eSubA (eVar 0) (eC (.int 1))) aNil))) (eC (.int 8))) (eVar 1) [some (.cell n), some (.int m), none] (γ.set n (.lst [.int a, .int (b + 1)])) = .ok (.int (r / 8 % m)) (γ.set n (.lst [.int a, .int (b + 1)])) :=
      eOp_ok (eOp_ok (fn_ok (acons_ok j0 (acons_ok j1 rfl)) rfl hr) rfl (gDiv_i (by decide) (by decide))) rfl (gMod_i hm)
    rw [fbRoll, sSeq_ok (ρ1 := [some (.cell n), some (.int m), none]) (γ1 := γ)]
    · rw [sSeq_ok (ρ1 := [some (.cell n), some (.int m), none]) (γ1 := γ.set n (.lst [.int a, .int (b + 1)])), sRet_ok hd]
      · rfl
      · exact setC_ok (k := 1) (j := 1) (eOp_ok (i1 _) rfl rfl) rfl rfl h (by rfl)
    · rw [sIf_ok hc, decide_eq_false hb, if_neg Bool.false_ne_true]
      rfl
theorem atI_ok {α : Type} {xs : List α} {i : Int} (h0 : 0 ≤ i) (h1 : i < xs.length) : ∃ c, atI xs i = some c := by
  have hi : i.toNat < xs.length := by omega
  refine ⟨xs[i.toNat], ?_⟩
  unfold atI
  have e : ixN xs.length i = some i.toNat := by
    unfold ixN
    rw [if_pos h0, if_pos h1]
  rw [e]
  simp [hi]
theorem cell_ok (ns : List Int) (hl : ns.length ≤ 1000) (k : Int) (hk : 0 ≤ k) (γ : List D) : ∃ c : Int, gCell [.scr ns, .int k] γ = .ok (.int c) γ := by
  show ∃ c : Int, bodyR (fbCell [some (.scr ns), some (.int k)] γ) = _
  cases ns with
  | nil =>
    refine ⟨k * 7919, ?_⟩
    have hc : cCmp dEqN (eVar 0) (eLst (aLim 1000000 aNil)) [some (.scr []), some (.int k)] γ = .ok true γ := rfl
    rw [fbCell, sSeq_rt (d := .int (k * 7919)) (γ1 := γ)]
    · rfl
    · rw [sIf_ok hc, if_pos rfl]
      exact sRet_ok (eOp_ok rfl rfl (gMul_i (cMul_r (by decide) (by decide))))
  | cons n ns =>
    have hL : (0 : Int) < ((n :: ns).length : Int) := by rw [List.length_cons]; omega
    obtain ⟨c, hc1⟩ := atI_ok (xs := n :: ns) (i := k % ((n :: ns).length : Int)) (Int.emod_nonneg _ (by omega)) (Int.emod_lt_of_pos _ hL)
    refine ⟨c + k / ((n :: ns).length : Int) * 104729, ?_⟩
    have hc : cCmp dEqN (eVar 0) (eLst (aLim 1000000 aNil)) [some (.scr (n :: ns)), some (.int k)] γ = .ok false γ := rfl
    rw [fbCell, sSeq_ok (ρ1 := [some (.scr (n :: ns)), some (.int k)]) (γ1 := γ)]
    · have hlen : eCall dLenA (aCons (eVar 0) aNil) [some (.scr (n :: ns)), some (.int k)] γ = .ok (.int ((n :: ns).length : Int)) γ := rfl
      have hix : eSubA (eVar 0) (eOp gModI (eVar 1) (eCall dLenA (aCons (eVar 0) aNil))) [some (.scr (n :: ns)), some (.int k)] γ = .ok (.int c) γ := by
        show eOp dIx (eVar 0) (eOp gModI (eVar 1) (eCall dLenA (aCons (eVar 0) aNil))) [some (.scr (n :: ns)), some (.int k)] γ = .ok (.int c) γ
        refine eOp_ok (x := .scr (n :: ns)) rfl (eOp_ok rfl hlen (gMod_i hL)) ?_
        show (atI (n :: ns) (k % ((n :: ns).length : Int))).map D.int = _
        rw [hc1]
        rfl
      rw [sRet_ok (eOp_ok hix (eOp_ok (eOp_ok rfl hlen (gDiv_i hL (by omega))) rfl (gMul_i (cMul_r (by decide) (by decide)))) rfl)]
      rfl
    · rw [sIf_ok hc, if_neg Bool.false_ne_true]
      rfl
theorem lcS_cons {tg : Tgt} {c : CSem} {f : ESem} {ρ ρ2 : Env} {d y : D} {ds acc γ γ1 γ2 : List D} (h1 : tg d ρ = some ρ2) (h2 : c ρ2 γ = .ok true γ1) (h3 : f ρ2 γ1 = .ok y γ2) (hz : acc.length < 1000000) : lcS tg c f ρ (d :: ds) acc γ = lcS tg c f ρ ds (acc ++ [y]) γ2 := by
  simp only [lcS, h1, h2, h3, if_pos hz]
theorem lc_cells (ns : List Int) (hl : ns.length ≤ 1000) (m : Int) : ∀ (ds acc γ : List D), (∀ d ∈ ds, ∃ k : Int, 0 ≤ k ∧ d = .int k) → acc.length + ds.length < 1000000 → Cells γ →
    ∃ γ', lcS (gtN 2) cYesS (eCell (aCons (eFn 2 gCell (aCons (eVar 0) (aCons (eVar 2) aNil))) (aCons (eC (.int 0)) aNil))) [some (.scr ns), some (.int m), none] ds acc γ = .ok (acc ++ (List.range' γ.length ds.length).map D.cell) γ' ∧ Cells γ' ∧ γ'.length = γ.length + ds.length
  | [], acc, γ, _, _, hγ => ⟨γ, by simp [lcS], hγ, by simp⟩
  | d :: ds, acc, γ, hd, hz, hγ => by
    obtain ⟨k, hk, rfl⟩ := hd d (by simp)
    obtain ⟨c, hc⟩ := cell_ok ns hl k hk γ
    have hf : eCell (aCons (eFn 2 gCell (aCons (eVar 0) (aCons (eVar 2) aNil))) (aCons (eC (.int 0)) aNil)) [some (.scr ns), some (.int m), some (.int k)] γ = .ok (.cell γ.length) (γ ++ [.lst [.int c, .int 0]]) := by
      have : aCons (eFn 2 gCell (aCons (eVar 0) (aCons (eVar 2) aNil))) (aCons (eC (.int 0)) aNil) [some (.scr ns), some (.int m), some (.int k)] γ = .ok [.int c, .int 0] γ := acons_ok (fn_ok (acons_ok rfl (acons_ok rfl rfl)) rfl hc) (acons_ok rfl rfl)
      simp only [eCell, this, Res.bind_ok]
      rfl
    have hγ' : Cells (γ ++ [.lst [.int c, .int 0]]) := by
      intro n d e
      by_cases hn : n < γ.length
      · rw [List.getElem?_append_left hn] at e; exact hγ n d e
      · rw [List.getElem?_append_right (by omega)] at e
        obtain ⟨h1, h2⟩ := List.getElem?_eq_some_iff.mp e
        simp at h1
        have : n - γ.length = 0 := by omega
        simp [this] at h2
        exact ⟨c, 0, h2.symm⟩
    obtain ⟨γ2, h1, h2, h3⟩ := lc_cells ns hl m ds (acc ++ [.cell γ.length]) (γ ++ [.lst [.int c, .int 0]]) (fun d h => hd d (by simp [h])) (by simp at hz ⊢; omega) hγ'
    refine ⟨γ2, ?_, h2, by rw [h3]; simp; omega⟩
    rw [lcS_cons (ρ2 := [some (.scr ns), some (.int m), some (.int k)]) (γ1 := γ) rfl rfl hf (by simp at hz; omega), h1]
    simp [List.range'_succ]
theorem rounds_ok (ns : List Int) (hl : ns.length ≤ 1000) {m : Int} (h1 : 1 ≤ m) (h2 : m ≤ 1000) : ∃ γ', gRounds [.scr ns, .int m] [] = .ok (.lst ((List.range' 0 γ'.length).map D.cell)) γ' ∧ Cells γ' := by
  obtain ⟨j, hj⟩ : ∃ j : Int, j = (if (if (ns.length : Int) < m then (ns.length : Int) else m) > 1 then (if (ns.length : Int) < m then (ns.length : Int) else m) else 1) := ⟨_, rfl⟩
  have hj1 : 1 ≤ j ∧ j ≤ 1000 := by
    rw [hj]
    split <;> split <;> omega
  have hs : lRng1 (aCons (eCall dMax (aCons (eC (.int 1)) (aCons (eCall dMin (aCons (eVar 1) (aCons (eCall dLenA (aCons (eVar 0) aNil)) aNil))) aNil))) aNil) [some (.scr ns), some (.int m), none] [] = .ok (rangeD 0 j.toNat) [] := by
    have : aCons (eCall dMax (aCons (eC (.int 1)) (aCons (eCall dMin (aCons (eVar 1) (aCons (eCall dLenA (aCons (eVar 0) aNil)) aNil))) aNil))) aNil [some (.scr ns), some (.int m), none] [] = .ok [.int j] [] := by
      rw [hj]
      rfl
    simp only [lRng1, this, Res.bind_ok]
    rw [if_pos (by omega)]
  obtain ⟨γ', e1, e2, e3⟩ := lc_cells ns hl m (rangeD 0 j.toNat) [] [] (fun d h => by
    unfold rangeD at h
    obtain ⟨k, _, rfl⟩ := List.mem_map.mp h
    exact ⟨_, by omega, rfl⟩) (by unfold rangeD; simp; omega) (fun n d e => by simp at e)
  refine ⟨γ', ?_, e2⟩
  show bodyR (fbRounds [some (.scr ns), some (.int m), none] []) = _
  have he : eLc (lRng1 (aCons (eCall dMax (aCons (eC (.int 1)) (aCons (eCall dMin (aCons (eVar 1) (aCons (eCall dLenA (aCons (eVar 0) aNil)) aNil))) aNil))) aNil)) [2] (gtN 2) cYesS (eCell (aCons (eFn 2 gCell (aCons (eVar 0) (aCons (eVar 2) aNil))) (aCons (eC (.int 0)) aNil))) [some (.scr ns), some (.int m), none] [] = .ok (.lst ((List.range' 0 γ'.length).map D.cell)) γ' := by
    simp only [eLc, hs, Res.bind_ok]
    show (Res.bind (lcS _ _ _ [some (.scr ns), some (.int m), none] _ _ _) _) = _
    rw [e1, e3]
    simp
  rw [fbRounds, sRet_ok he]
  rfl
end DL

/-! DLw: drawn words, programs, stacks, in plain Lean -/
namespace DL
open PySem PySem.Spec PyProof.Rows L2
def words : List D := [.str "dup", .str "drop", .str "swap", .str "over", .str "rot", .str "nip", .str "tuck", .str "add", .str "sub", .str "mul", .str "neg", .int (-9), .int (-8), .int (-7), .int (-6), .int (-5), .int (-4), .int (-3), .int (-2), .int (-1), .int 0, .int 1, .int 2, .int 3, .int 4, .int 5, .int 6, .int 7, .int 8, .int 9]
def fbWord : SSem := (sSeq (sSet 1 (eLst (aLim 1000000 (aCons (eC (.str "dup")) (aCons (eC (.str "drop")) (aCons (eC (.str "swap")) (aCons (eC (.str "over")) (aCons (eC (.str "rot")) (aCons (eC (.str "nip")) (aCons (eC (.str "tuck")) (aCons (eC (.str "add")) (aCons (eC (.str "sub")) (aCons (eC (.str "neg")) (aCons (eC (.str "add")) (aCons (eC (.str "sub")) (aCons (eC (.str "mul")) (aCons (eC (.int 1)) (aCons (eC (.int 2)) aNil))))))))))))))))))
  (sSeq (sSet 2 (eFn 2 gRoll (aCons (eVar 0) (aCons (eC (.int 16)) aNil))))
  (sRet (eIf (cCmp bLt (eVar 2) (eC (.int 15))) (eSubA (eVar 1) (eVar 2)) (eOp gSubI (eFn 2 gRoll (aCons (eVar 0) (aCons (eC (.int 19)) aNil))) (eC (.int 9)))))))
def gWord : List D → List D → Res D := fun ds γ => bodyR (fbWord (startE 3 ds) γ)
def someW : D := .lst [.str "dup", .str "drop", .str "swap", .str "over", .str "rot", .str "nip", .str "tuck", .str "add", .str "sub", .str "neg", .str "add", .str "sub", .str "mul", .int 1, .int 2]
theorem eIf_ok {c : CSem} {f g : ESem} {ρ : Env} {γ γ1 : List D} {k : Bool} (h : c ρ γ = .ok k γ1) : eIf c f g ρ γ = if k = true then f ρ γ1 else g ρ γ1 := by
  simp only [eIf, h, Res.bind_ok]
theorem int_word {i : Int} (h1 : -9 ≤ i) (h2 : i ≤ 9) : D.int i ∈ words := by
  have h : i = -9 ∨ i = -8 ∨ i = -7 ∨ i = -6 ∨ i = -5 ∨ i = -4 ∨ i = -3 ∨ i = -2 ∨ i = -1 ∨ i = 0 ∨ i = 1 ∨ i = 2 ∨ i = 3 ∨ i = 4 ∨ i = 5 ∨ i = 6 ∨ i = 7 ∨ i = 8 ∨ i = 9 := by omega
  unfold words
  rcases h with rfl | rfl | rfl | rfl | rfl | rfl | rfl | rfl | rfl | rfl | rfl | rfl | rfl | rfl | rfl | rfl | rfl | rfl | rfl <;> simp
theorem word_ok {γ : List D} (hγ : Cells γ) {n : Nat} (hn : n < γ.length) : ∃ (d : D) (γ' : List D), gWord [.cell n] γ = .ok d γ' ∧ d ∈ words ∧ Cells γ' ∧ γ'.length = γ.length := by
  obtain ⟨r, γ1, e1, a1, a2, a3, a4⟩ := roll_ok hγ hn (m := 16) (by decide) (by decide)
  have f2 : sSet 2 (eFn 2 gRoll (aCons (eVar 0) (aCons (eC (.int 16)) aNil))) [some (.cell n), some someW, none] γ = .nx [some (.cell n), some someW, some (.int r)] γ1 := sSet_ok (fn_ok (ds := [.cell n, .int 16]) (acons_ok rfl (acons_ok rfl rfl)) rfl e1)
  have hb : ∀ d γ', eIf (cCmp bLt (eVar 2) (eC (.int 15))) (eSubA (eVar 1) (eVar 2)) (eOp gSubI (eFn 2 gRoll (aCons (eVar 0) (aCons (eC (.int 19)) aNil))) (eC (.int 9))) [some (.cell n), some someW, some (.int r)] γ1 = .ok d γ' → gWord [.cell n] γ = .ok d γ' := fun d γ' h => by
    show bodyR (fbWord [some (.cell n), none, none] γ) = _
    rw [fbWord, sSeq_ok (show sSet 1 _ [some (.cell n), none, none] γ = .nx [some (.cell n), some someW, none] γ from rfl), sSeq_ok f2, sRet_ok h]
    rfl
  have hc : cCmp bLt (eVar 2) (eC (.int 15)) [some (.cell n), some someW, some (.int r)] γ1 = .ok (decide (r < 15)) γ1 := rfl
  by_cases h15 : r < 15
  · have h : r = 0 ∨ r = 1 ∨ r = 2 ∨ r = 3 ∨ r = 4 ∨ r = 5 ∨ r = 6 ∨ r = 7 ∨ r = 8 ∨ r = 9 ∨ r = 10 ∨ r = 11 ∨ r = 12 ∨ r = 13 ∨ r = 14 := by omega
    rcases h with rfl | rfl | rfl | rfl | rfl | rfl | rfl | rfl | rfl | rfl | rfl | rfl | rfl | rfl | rfl <;> exact ⟨_, γ1, hb _ _ rfl, by simp [words], a3, a4⟩
  · obtain ⟨r2, γ2, e2, b1, b2, b3, b4⟩ := roll_ok a3 (n := n) (by rw [a4]; exact hn) (m := 19) (by decide) (by decide)
    refine ⟨.int (r2 - 9), γ2, hb _ _ ?_, int_word (by omega) (by omega), b3, b4.trans a4⟩
    rw [eIf_ok hc, decide_eq_false h15, if_neg Bool.false_ne_true]
    exact eOp_ok (fn_ok (ds := [.cell n, .int 19]) (acons_ok rfl (acons_ok rfl rfl)) rfl e2) rfl rfl
def isMul : D → Bool
  | .str x => x == "mul"
  | _ => false
def muls (ds : List D) : Nat := (ds.filter isMul).length
theorem muls_app (a b : List D) : muls (a ++ b) = muls a + muls b := by
  unfold muls
  rw [List.filter_append, List.length_append]
def pBody : SSem := (sSeq (sSet 5 (eFn 1 gWord (aCons (eVar 0) aNil)))
  (sSeq (sSet 4 (eOp gAddA (eVar 4) (eCall dInt (aCons (eCmp dEqN (eVar 5) (eC (.str "mul"))) aNil))))
  (sApp 3 (eIf (cOr (cCmp dNeN (eVar 5) (eC (.str "mul"))) (cCmp bLt (eVar 4) (eC (.int 4)))) (eVar 5) (eC (.str "neg"))))))
def fbProgram : SSem := (sSeq (sParN1 3 4 (eLst (aLim 1000000 aNil)) (eC (.int 0)))
  (sSeq (sFor (lRng1 (aCons (eFn 2 gRoll (aCons (eVar 0) (aCons (eOp gAddA (eVar 1) (eC (.int 1))) aNil))) aNil)) (gtN 2) pBody)
  (sRet (eCall dTup (aCons (eLook 3) aNil)))))
def gProgram : List D → List D → Res D := fun ds γ => bodyR (fbProgram (startE 6 ds) γ)
theorem sApp_ok {i : Nat} {f : ESem} {ρ : Env} {γ γ1 acc : List D} {d : D} (h0 : ρ[i]? = some (some (.mine (.lst acc)))) (h : f ρ γ = .ok d γ1) (hz : acc.length < 1000000) : sApp i f ρ γ = .nx (ρ.set i (some (.mine (.lst (acc ++ [d]))))) γ1 := by
  simp only [sApp, h0, h, toOut_ok, if_pos hz]
/-- one turn, by the word -/
theorem turn_w {d : D} (hd : d ∈ words) (n : Nat) (m k : Int) (t : Option D) (acc γ : List D) (hz : acc.length < 1000) : ∃ d', d' ∈ words ∧ (isMul d' = true → k < 3 ∧ isMul d = true) ∧
    (sSeq (sSet 4 (eOp gAddA (eVar 4) (eCall dInt (aCons (eCmp dEqN (eVar 5) (eC (.str "mul"))) aNil)))) (sApp 3 (eIf (cOr (cCmp dNeN (eVar 5) (eC (.str "mul"))) (cCmp bLt (eVar 4) (eC (.int 4)))) (eVar 5) (eC (.str "neg"))))) [some (.cell n), some (.int m), t, some (.mine (.lst acc)), some (.int k), some d] γ
      = .nx [some (.cell n), some (.int m), t, some (.mine (.lst (acc ++ [d']))), some (.int (k + if isMul d = true then 1 else 0)), some d] γ := by
  have hz' : acc.length < 1000000 := by omega
  by_cases hm : d = .str "mul"
  · subst hm
    have e1 : sSet 4 (eOp gAddA (eVar 4) (eCall dInt (aCons (eCmp dEqN (eVar 5) (eC (.str "mul"))) aNil))) [some (.cell n), some (.int m), t, some (.mine (.lst acc)), some (.int k), some (.str "mul")] γ = .nx [some (.cell n), some (.int m), t, some (.mine (.lst acc)), some (.int (k + 1)), some (.str "mul")] γ := by kernel_rfl
    have hc : cOr (cCmp dNeN (eVar 5) (eC (.str "mul"))) (cCmp bLt (eVar 4) (eC (.int 4))) [some (.cell n), some (.int m), t, some (.mine (.lst acc)), some (.int (k + 1)), some (.str "mul")] γ = .ok (decide (k + 1 < 4)) γ := by kernel_rfl
    by_cases hk : k + 1 < 4
    · refine ⟨.str "mul", hd, fun _ => ⟨by omega, rfl⟩, ?_⟩
      rw [sSeq_ok e1]
      exact sApp_ok rfl (by rw [eIf_ok hc, decide_eq_true hk, if_pos rfl]; rfl) hz'
    · refine ⟨.str "neg", by simp [words], fun z => ?_, ?_⟩
      · exact absurd z (by decide)
      · rw [sSeq_ok e1]
        exact sApp_ok rfl (by rw [eIf_ok hc, decide_eq_false hk, if_neg Bool.false_ne_true]; rfl) hz'
  · have key : isMul d = false ∧ sSet 4 (eOp gAddA (eVar 4) (eCall dInt (aCons (eCmp dEqN (eVar 5) (eC (.str "mul"))) aNil))) [some (.cell n), some (.int m), t, some (.mine (.lst acc)), some (.int k), some d] γ = .nx [some (.cell n), some (.int m), t, some (.mine (.lst acc)), some (.int (k + 0)), some d] γ ∧
        ∀ k', cOr (cCmp dNeN (eVar 5) (eC (.str "mul"))) (cCmp bLt (eVar 4) (eC (.int 4))) [some (.cell n), some (.int m), t, some (.mine (.lst acc)), some (.int k'), some d] γ = .ok true γ ∧ eVar 5 [some (.cell n), some (.int m), t, some (.mine (.lst acc)), some (.int k'), some d] γ = .ok d γ := by
      simp only [words, List.mem_cons, List.not_mem_nil, or_false] at hd
      rcases hd with rfl | rfl | rfl | rfl | rfl | rfl | rfl | rfl | rfl | rfl | rfl | rfl | rfl | rfl | rfl | rfl | rfl | rfl | rfl | rfl | rfl | rfl | rfl | rfl | rfl | rfl | rfl | rfl | rfl | rfl <;> first | exact absurd rfl hm | exact ⟨by decide +kernel, by kernel_rfl, fun _ => ⟨by kernel_rfl, rfl⟩⟩
    obtain ⟨k1, k2, k3⟩ := key
    refine ⟨d, hd, fun z => (by rw [k1] at z; cases z), ?_⟩
    rw [sSeq_ok k2, k1]
    exact sApp_ok rfl (by rw [eIf_ok (k3 _).1, if_pos rfl]; exact (k3 _).2) hz'
theorem prog_loop (n : Nat) (m : Int) : ∀ (its acc : List D) (k : Int) (t w : Option D) (γ : List D), Cells γ → n < γ.length → acc.length + its.length < 1000 → (∀ d ∈ acc, d ∈ words) → muls acc ≤ 3 → (muls acc : Int) ≤ k →
    ∃ (acc' : List D) (k' : Int) (t' w' : Option D) (γ' : List D), loopS (gtN 2) pBody its [some (.cell n), some (.int m), t, some (.mine (.lst acc)), some (.int k), w] γ = .nx [some (.cell n), some (.int m), t', some (.mine (.lst acc')), some (.int k'), w'] γ' ∧ Cells γ' ∧ γ'.length = γ.length ∧ acc'.length = acc.length + its.length ∧ (∀ d ∈ acc', d ∈ words) ∧ muls acc' ≤ 3
  | [], acc, k, t, w, γ, hγ, hn, hz, hw, hm, hk => ⟨acc, k, t, w, γ, rfl, hγ, rfl, rfl, hw, hm⟩
  | it :: its, acc, k, t, w, γ, hγ, hn, hz, hw, hm, hk => by
    obtain ⟨d, γ1, e1, hd, c1, l1⟩ := word_ok hγ hn
    have f1 : sSet 5 (eFn 1 gWord (aCons (eVar 0) aNil)) [some (.cell n), some (.int m), some it, some (.mine (.lst acc)), some (.int k), w] γ = .nx [some (.cell n), some (.int m), some it, some (.mine (.lst acc)), some (.int k), some d] γ1 := sSet_ok (fn_ok (ds := [.cell n]) (acons_ok rfl rfl) rfl e1)
    obtain ⟨d', hd', hm', f2⟩ := turn_w hd n m k (some it) acc γ1 (by rw [List.length_cons] at hz; omega)
    have mm : muls (acc ++ [d']) ≤ 3 ∧ (muls (acc ++ [d']) : Int) ≤ k + if isMul d = true then 1 else 0 := by
      rw [muls_app]
      cases q : isMul d' with
      | true =>
        obtain ⟨h1, h2⟩ := hm' q
        have e : muls [d'] = 1 := by unfold muls; rw [List.filter_cons_of_pos q]; rfl
        rw [e, h2]
        simp only [if_true]
        omega
      | false =>
        have e : muls [d'] = 0 := by unfold muls; rw [List.filter_cons_of_neg (by rw [q]; exact Bool.false_ne_true)]; rfl
        rw [e]
        constructor
        · omega
        · split <;> omega
    obtain ⟨acc', k', t', w', γ', e3, h1, h2, h3, h4, h5⟩ := prog_loop n m its (acc ++ [d']) (k + if isMul d = true then 1 else 0) (some it) (some d) γ1 c1 (by rw [l1]; exact hn) (by rw [List.length_append, List.length_cons, List.length_nil]; rw [List.length_cons] at hz; omega) (fun x hx => by
      rcases List.mem_append.mp hx with h | h
      · exact hw x h
      · rw [List.mem_singleton.mp h]; exact hd') mm.1 mm.2
    refine ⟨acc', k', t', w', γ', ?_, h1, h2.trans l1, ?_, h4, h5⟩
    · have hb : pBody [some (.cell n), some (.int m), some it, some (.mine (.lst acc)), some (.int k), w] γ = .nx [some (.cell n), some (.int m), some it, some (.mine (.lst (acc ++ [d']))), some (.int (k + if isMul d = true then 1 else 0)), some d] γ1 := by
        rw [pBody, sSeq_ok f1]
        exact f2
      rw [loopS]
      show (match pBody [some (.cell n), some (.int m), some it, some (.mine (.lst acc)), some (.int k), w] γ with
        | .nx ρ2 γ2 => loopS (gtN 2) pBody its ρ2 γ2
        | .ct ρ2 γ2 => loopS (gtN 2) pBody its ρ2 γ2
        | .bk ρ2 γ2 => .nx ρ2 γ2
        | o => o) = _
      rw [hb]
      exact e3
    · rw [h3, List.length_append, List.length_cons, List.length_nil, List.length_cons]
      omega
/-- a drawn program: at most m words, at most three multiplications -/
theorem program_ok {γ : List D} (hγ : Cells γ) {n : Nat} (hn : n < γ.length) {m : Int} (h0 : 0 ≤ m) (h1 : m ≤ 100) : ∃ (ds γ' : List D), gProgram [.cell n, .int m] γ = .ok (.tup ds) γ' ∧ (ds.length : Int) ≤ m ∧ (∀ d ∈ ds, d ∈ words) ∧ muls ds ≤ 3 ∧ Cells γ' ∧ γ'.length = γ.length := by
  obtain ⟨r, γ1, e1, a1, a2, a3, a4⟩ := roll_ok hγ hn (m := m + 1) (by omega) (by omega)
  have hl : (rangeD 0 r.toNat).length = r.toNat := by unfold rangeD; simp
  obtain ⟨acc, k', t', w', γ2, e2, b1, b2, b3, b4, b5⟩ := prog_loop n m (rangeD 0 r.toNat) [] 0 none none γ1 a3 (by rw [a4]; exact hn) (by rw [hl]; simp; omega) (fun d h => by cases h) (by decide) (by decide)
  refine ⟨acc, γ2, ?_, by rw [b3, hl]; simp; omega, b4, b5, b1, b2.trans a4⟩
  have e3 : sFor (lRng1 (aCons (eFn 2 gRoll (aCons (eVar 0) (aCons (eOp gAddA (eVar 1) (eC (.int 1))) aNil))) aNil)) (gtN 2) pBody [some (.cell n), some (.int m), none, some (.mine (.lst [])), some (.int 0), none] γ = .nx [some (.cell n), some (.int m), t', some (.mine (.lst acc)), some (.int k'), w'] γ2 := by
    have q : aCons (eFn 2 gRoll (aCons (eVar 0) (aCons (eOp gAddA (eVar 1) (eC (.int 1))) aNil))) aNil [some (.cell n), some (.int m), none, some (.mine (.lst [])), some (.int 0), none] γ = .ok [.int r] γ1 := acons_ok (fn_ok (ds := [.cell n, .int (m + 1)]) (acons_ok rfl (acons_ok rfl rfl)) rfl e1) rfl
    simp only [sFor, lRng1, q, Res.bind_ok]
    rw [if_pos (by omega)]
    exact e2
  show bodyR (fbProgram [some (.cell n), some (.int m), none, none, none, none] γ) = _
  rw [fbProgram, sSeq_ok (show sParN1 3 4 _ _ [some (.cell n), some (.int m), none, none, none, none] γ = .nx [some (.cell n), some (.int m), none, some (.mine (.lst [])), some (.int 0), none] γ from rfl), sSeq_ok e3, sRet_ok (show eCall dTup (aCons (eLook 3) aNil) _ γ2 = .ok (.tup acc) γ2 from rfl)]
  rfl
end DL

/-! DLW: rolls, words and programs drawn while other cells hold other things -/
namespace DL
open PySem PySem.Spec PyProof.Rows L2
/-- the cell n holds two ints, the others are those of γ0 -/
def DieL (n : Nat) (γ0 γ : List D) : Prop := (∃ a b : Int, γ[n]? = some (.lst [.int a, .int b])) ∧ γ.length = γ0.length ∧ ∀ m, m ≠ n → γ[m]? = γ0[m]?
theorem dieL_set {n : Nat} {γ0 γ : List D} (h : DieL n γ0 γ) (hn : n < γ.length) {a b : Int} : DieL n γ0 (γ.set n (.lst [.int a, .int b])) :=
  ⟨⟨a, b, List.getElem?_set_self hn⟩, by rw [List.length_set]; exact h.2.1, fun m hm => by rw [List.getElem?_set_ne (Ne.symm hm)]; exact h.2.2 m hm⟩
theorem roll_L {n : Nat} {γ0 γ : List D} (hγ : DieL n γ0 γ) (hn : n < γ.length) {m : Int} (hm : 0 < m) (hm2 : m < 2 ^ 100) : ∃ (r : Int) (γ' : List D), gRoll [.cell n, .int m] γ = .ok (.int r) γ' ∧ 0 ≤ r ∧ r < m ∧ DieL n γ0 γ' ∧ γ'.length = γ.length := by
  obtain ⟨a, b, h⟩ := hγ.1
  have v0 : ∀ (γ : List D) (x : Option D), eVar 0 [some (.cell n), some (.int m), x] γ = .ok (.cell n) γ := fun _ _ => rfl
  have i0 := fun x => (ix_ok (v0 γ x) h).1
  have i1 := fun x => (ix_ok (v0 γ x) h).2
  show ∃ (r : Int) (γ' : List D), bodyR (fbRoll [some (.cell n), some (.int m), none] γ) = .ok (.int r) γ' ∧ _
  have hc : cCmp bGe (eSubA (eVar 0) (eC (.int 0))) (eOp gPowI (eC (.int 10)) (eC (.int 18))) [some (.cell n), some (.int m), none] γ = .ok (decide ((10 : Int) ^ 18 ≤ a)) γ := by
    simp only [cCmp, i0, Res.bind_ok]
    rfl
  by_cases hb : (10 : Int) ^ 18 ≤ a
  · refine ⟨a % m, γ.set n (.lst [.int (a / m), .int b]), ?_, Int.emod_nonneg _ (by omega), Int.emod_lt_of_pos _ hm, dieL_set hγ hn, by simp⟩
    rw [fbRoll, sSeq_rt (d := .int (a % m)) (γ1 := γ.set n (.lst [.int (a / m), .int b]))]
    · rfl
    · rw [sIf_ok hc, decide_eq_true hb, if_pos rfl, sSeq_ok (sSet_ok (eOp_ok (i0 none) rfl (gMod_i hm)))]
      show sSeq _ _ [some (.cell n), some (.int m), some (.int (a % m))] γ = _
      rw [sSeq_ok (ρ1 := [some (.cell n), some (.int m), some (.int (a % m))]) (γ1 := γ.set n (.lst [.int (a / m), .int b]))]
      · rfl
      · exact setC_ok (k := 0) (j := 0) (eOp_ok (i0 _) rfl (gDiv_i hm hm2)) rfl rfl h (by rfl)
  · have hset : (γ.set n (.lst [.int a, .int (b + 1)]))[n]? = some (.lst [.int a, .int (b + 1)]) := List.getElem?_set_self hn
    obtain ⟨r, hr, hr0⟩ := drawn_ok a (b + 1) (γ.set n (.lst [.int a, .int (b + 1)]))
    refine ⟨r / 8 % m, γ.set n (.lst [.int a, .int (b + 1)]), ?_, Int.emod_nonneg _ (by omega), Int.emod_lt_of_pos _ hm, dieL_set hγ hn, by simp⟩
    have j0 := (ix_ok (v0 (γ.set n (.lst [.int a, .int (b + 1)])) none) hset).1
    have j1 := (ix_ok (v0 (γ.set n (.lst [.int a, .int (b + 1)])) none) hset).2
    have hd : eOp gModI (eOp gDivI (eFn 2 gDrawn (aCons (eSubA (eVar 0) (eC (.int 0))) (aCons (eSubA (eVar 0) (eC (.int 1))) aNil))) (eC (.int 8))) (eVar 1) [some (.cell n), some (.int m), none] (γ.set n (.lst [.int a, .int (b + 1)])) = .ok (.int (r / 8 % m)) (γ.set n (.lst [.int a, .int (b + 1)])) :=
      eOp_ok (eOp_ok (fn_ok (acons_ok j0 (acons_ok j1 rfl)) rfl hr) rfl (gDiv_i (by decide) (by decide))) rfl (gMod_i hm)
    rw [fbRoll, sSeq_ok (ρ1 := [some (.cell n), some (.int m), none]) (γ1 := γ)]
    · rw [sSeq_ok (ρ1 := [some (.cell n), some (.int m), none]) (γ1 := γ.set n (.lst [.int a, .int (b + 1)])), sRet_ok hd]
      · rfl
      · exact setC_ok (k := 1) (j := 1) (eOp_ok (i1 _) rfl rfl) rfl rfl h (by rfl)
    · rw [sIf_ok hc, decide_eq_false hb, if_neg Bool.false_ne_true]
      rfl
theorem word_L {n : Nat} {γ0 γ : List D} (hγ : DieL n γ0 γ) (hn : n < γ.length) : ∃ (d : D) (γ' : List D), gWord [.cell n] γ = .ok d γ' ∧ d ∈ words ∧ DieL n γ0 γ' ∧ γ'.length = γ.length := by
  obtain ⟨r, γ1, e1, a1, a2, a3, a4⟩ := roll_L hγ hn (m := 16) (by decide) (by decide)
  have f2 : sSet 2 (eFn 2 gRoll (aCons (eVar 0) (aCons (eC (.int 16)) aNil))) [some (.cell n), some someW, none] γ = .nx [some (.cell n), some someW, some (.int r)] γ1 := sSet_ok (fn_ok (ds := [.cell n, .int 16]) (acons_ok rfl (acons_ok rfl rfl)) rfl e1)
  have hb : ∀ d γ', eIf (cCmp bLt (eVar 2) (eC (.int 15))) (eSubA (eVar 1) (eVar 2)) (eOp gSubI (eFn 2 gRoll (aCons (eVar 0) (aCons (eC (.int 19)) aNil))) (eC (.int 9))) [some (.cell n), some someW, some (.int r)] γ1 = .ok d γ' → gWord [.cell n] γ = .ok d γ' := fun d γ' h => by
    show bodyR (fbWord [some (.cell n), none, none] γ) = _
    rw [fbWord, sSeq_ok (show sSet 1 _ [some (.cell n), none, none] γ = .nx [some (.cell n), some someW, none] γ from rfl), sSeq_ok f2, sRet_ok h]
    rfl
  have hc : cCmp bLt (eVar 2) (eC (.int 15)) [some (.cell n), some someW, some (.int r)] γ1 = .ok (decide (r < 15)) γ1 := rfl
  by_cases h15 : r < 15
  · have h : r = 0 ∨ r = 1 ∨ r = 2 ∨ r = 3 ∨ r = 4 ∨ r = 5 ∨ r = 6 ∨ r = 7 ∨ r = 8 ∨ r = 9 ∨ r = 10 ∨ r = 11 ∨ r = 12 ∨ r = 13 ∨ r = 14 := by omega
    rcases h with rfl | rfl | rfl | rfl | rfl | rfl | rfl | rfl | rfl | rfl | rfl | rfl | rfl | rfl | rfl <;> exact ⟨_, γ1, hb _ _ rfl, by simp [words], a3, a4⟩
  · obtain ⟨r2, γ2, e2, b1, b2, b3, b4⟩ := roll_L a3 (n := n) (by rw [a4]; exact hn) (m := 19) (by decide) (by decide)
    refine ⟨.int (r2 - 9), γ2, hb _ _ ?_, int_word (by omega) (by omega), b3, b4.trans a4⟩
    rw [eIf_ok hc, decide_eq_false h15, if_neg Bool.false_ne_true]
    exact eOp_ok (fn_ok (ds := [.cell n, .int 19]) (acons_ok rfl (acons_ok rfl rfl)) rfl e2) rfl rfl
theorem prog_loopL (n : Nat) (γ0 : List D) (m : Int) : ∀ (its acc : List D) (k : Int) (t w : Option D) (γ : List D), DieL n γ0 γ → n < γ.length → acc.length + its.length < 1000 → (∀ d ∈ acc, d ∈ words) → muls acc ≤ 3 → (muls acc : Int) ≤ k →
    ∃ (acc' : List D) (k' : Int) (t' w' : Option D) (γ' : List D), loopS (gtN 2) pBody its [some (.cell n), some (.int m), t, some (.mine (.lst acc)), some (.int k), w] γ = .nx [some (.cell n), some (.int m), t', some (.mine (.lst acc')), some (.int k'), w'] γ' ∧ DieL n γ0 γ' ∧ γ'.length = γ.length ∧ acc'.length = acc.length + its.length ∧ (∀ d ∈ acc', d ∈ words) ∧ muls acc' ≤ 3
  | [], acc, k, t, w, γ, hγ, hn, hz, hw, hm, hk => ⟨acc, k, t, w, γ, rfl, hγ, rfl, rfl, hw, hm⟩
  | it :: its, acc, k, t, w, γ, hγ, hn, hz, hw, hm, hk => by
    obtain ⟨d, γ1, e1, hd, c1, l1⟩ := word_L hγ hn
    have f1 : sSet 5 (eFn 1 gWord (aCons (eVar 0) aNil)) [some (.cell n), some (.int m), some it, some (.mine (.lst acc)), some (.int k), w] γ = .nx [some (.cell n), some (.int m), some it, some (.mine (.lst acc)), some (.int k), some d] γ1 := sSet_ok (fn_ok (ds := [.cell n]) (acons_ok rfl rfl) rfl e1)
    obtain ⟨d', hd', hm', f2⟩ := turn_w hd n m k (some it) acc γ1 (by rw [List.length_cons] at hz; omega)
    have mm : muls (acc ++ [d']) ≤ 3 ∧ (muls (acc ++ [d']) : Int) ≤ k + if isMul d = true then 1 else 0 := by
      rw [muls_app]
      cases q : isMul d' with
      | true =>
        obtain ⟨h1, h2⟩ := hm' q
        have e : muls [d'] = 1 := by unfold muls; rw [List.filter_cons_of_pos q]; rfl
        rw [e, h2]
        simp only [if_true]
        omega
      | false =>
        have e : muls [d'] = 0 := by unfold muls; rw [List.filter_cons_of_neg (by rw [q]; exact Bool.false_ne_true)]; rfl
        rw [e]
        constructor
        · omega
        · split <;> omega
    obtain ⟨acc', k', t', w', γ', e3, h1, h2, h3, h4, h5⟩ := prog_loopL n γ0 m its (acc ++ [d']) (k + if isMul d = true then 1 else 0) (some it) (some d) γ1 c1 (by rw [l1]; exact hn) (by rw [List.length_append, List.length_cons, List.length_nil]; rw [List.length_cons] at hz; omega) (fun x hx => by
      rcases List.mem_append.mp hx with h | h
      · exact hw x h
      · rw [List.mem_singleton.mp h]; exact hd') mm.1 mm.2
    refine ⟨acc', k', t', w', γ', ?_, h1, h2.trans l1, ?_, h4, h5⟩
    · have hb : pBody [some (.cell n), some (.int m), some it, some (.mine (.lst acc)), some (.int k), w] γ = .nx [some (.cell n), some (.int m), some it, some (.mine (.lst (acc ++ [d']))), some (.int (k + if isMul d = true then 1 else 0)), some d] γ1 := by
        rw [pBody, sSeq_ok f1]
        exact f2
      rw [loopS]
      show (match pBody [some (.cell n), some (.int m), some it, some (.mine (.lst acc)), some (.int k), w] γ with
        | .nx ρ2 γ2 => loopS (gtN 2) pBody its ρ2 γ2
        | .ct ρ2 γ2 => loopS (gtN 2) pBody its ρ2 γ2
        | .bk ρ2 γ2 => .nx ρ2 γ2
        | o => o) = _
      rw [hb]
      exact e3
    · rw [h3, List.length_append, List.length_cons, List.length_nil, List.length_cons]
      omega
theorem program_L {n : Nat} {γ0 γ : List D} (hγ : DieL n γ0 γ) (hn : n < γ.length) {m : Int} (h0 : 0 ≤ m) (h1 : m ≤ 100) : ∃ (ds γ' : List D), gProgram [.cell n, .int m] γ = .ok (.tup ds) γ' ∧ (ds.length : Int) ≤ m ∧ (∀ d ∈ ds, d ∈ words) ∧ muls ds ≤ 3 ∧ DieL n γ0 γ' ∧ γ'.length = γ.length := by
  obtain ⟨r, γ1, e1, a1, a2, a3, a4⟩ := roll_L hγ hn (m := m + 1) (by omega) (by omega)
  have hl : (rangeD 0 r.toNat).length = r.toNat := by unfold rangeD; simp
  obtain ⟨acc, k', t', w', γ2, e2, b1, b2, b3, b4, b5⟩ := prog_loopL n γ0 m (rangeD 0 r.toNat) [] 0 none none γ1 a3 (by rw [a4]; exact hn) (by rw [hl]; simp; omega) (fun d h => by cases h) (by decide) (by decide)
  refine ⟨acc, γ2, ?_, by rw [b3, hl]; simp; omega, b4, b5, b1, b2.trans a4⟩
  have e3 : sFor (lRng1 (aCons (eFn 2 gRoll (aCons (eVar 0) (aCons (eOp gAddA (eVar 1) (eC (.int 1))) aNil))) aNil)) (gtN 2) pBody [some (.cell n), some (.int m), none, some (.mine (.lst [])), some (.int 0), none] γ = .nx [some (.cell n), some (.int m), t', some (.mine (.lst acc)), some (.int k'), w'] γ2 := by
    have q : aCons (eFn 2 gRoll (aCons (eVar 0) (aCons (eOp gAddA (eVar 1) (eC (.int 1))) aNil))) aNil [some (.cell n), some (.int m), none, some (.mine (.lst [])), some (.int 0), none] γ = .ok [.int r] γ1 := acons_ok (fn_ok (ds := [.cell n, .int (m + 1)]) (acons_ok rfl (acons_ok rfl rfl)) rfl e1) rfl
    simp only [sFor, lRng1, q, Res.bind_ok]
    rw [if_pos (by omega)]
    exact e2
  show bodyR (fbProgram [some (.cell n), some (.int m), none, none, none, none] γ) = _
  rw [fbProgram, sSeq_ok (show sParN1 3 4 _ _ [some (.cell n), some (.int m), none, none, none, none] γ = .nx [some (.cell n), some (.int m), none, some (.mine (.lst [])), some (.int 0), none] γ from rfl), sSeq_ok e3, sRet_ok (show eCall dTup (aCons (eLook 3) aNil) _ γ2 = .ok (.tup acc) γ2 from rfl)]
  rfl
end DL

/-! DLx: what is a program, in plain Lean -/
namespace DL
open PySem PySem.Spec PyProof.Rows L2
def tWORDS : List Str := ["dup", "drop", "swap", "over", "rot", "nip", "tuck", "add", "sub", "mul", "neg"]
def fbIsWhole : SSem := (sRet (eAnd (eCall dIsi (aCons (eVar 0) (aCons (eC (.raw (.ty "int"))) aNil))) (eAnd (eNot (eCall dIsi (aCons (eVar 0) (aCons (eC (.raw (.ty "bool"))) aNil)))) (eChain bLe bLe (eVar 1) (eVar 0) (eVar 2)))))
def gIsWhole : List D → List D → Res D := fun ds γ => bodyR (fbIsWhole (startE 3 ds) γ)
def fbIsWord : SSem := (sRet (eIf (cVal (eCall dIsi (aCons (eVar 0) (aCons (eC (.raw (.ty "str"))) aNil)))) (eCmp dInA (eVar 0) (eC (.tup (tWORDS.map D.str)))) (eFn 3 gIsWhole (aCons (eVar 0) (aCons (eNeg (eC (.int 9))) (aCons (eC (.int 9)) aNil))))))
def gIsWord : List D → List D → Res D := fun ds γ => bodyR (fbIsWord (startE 1 ds) γ)
def fbIsProgram : SSem := (sRet (eAnd (eCall dIsi (aCons (eVar 0) (aCons (eC (.raw (.ty "tuple"))) aNil))) (eAnd (eCmp bLe (eCall dLenA (aCons (eVar 0) aNil)) (eC (.int 60))) (eCall dAll (aCons (eLc (lAny (eVar 0)) [1] (gtN 1) cYesS (eFn 1 gIsWord (aCons (eVar 1) aNil))) aNil)))))
def gIsProgram : List D → List D → Res D := fun ds γ => bodyR (fbIsProgram (startE 2 ds) γ)
def fbNeedProgram : SSem := (sIf (cNot (cVal (eFn 1 gIsProgram (aCons (eVar 0) aNil)))) (sErr 1) sSkip)
def gNeedProgram : List D → List D → Res D := fun ds γ => bodyR (fbNeedProgram (startE 1 ds) γ)
theorem isWord_ok {d : D} (h : d ∈ words) (γ : List D) : gIsWord [d] γ = .ok (.bl true) γ := by
  simp only [words, List.mem_cons, List.not_mem_nil, or_false] at h
  rcases h with rfl | rfl | rfl | rfl | rfl | rfl | rfl | rfl | rfl | rfl | rfl | rfl | rfl | rfl | rfl | rfl | rfl | rfl | rfl | rfl | rfl | rfl | rfl | rfl | rfl | rfl | rfl | rfl | rfl | rfl <;> kernel_rfl
theorem lcS_map {f : ESem} {ρ : Env} {i : Nat} {h : D → D} {γ : List D} : ∀ (ds acc : List D), (∀ d ∈ ds, f (ρ.set i (some d)) γ = .ok (h d) γ) → acc.length + ds.length ≤ 1000000 → lcS (gtN i) cYesS f ρ ds acc γ = .ok (acc ++ ds.map h) γ
  | [], acc, _, _ => by simp [lcS]
  | d :: ds, acc, hf, hz => by
    rw [List.length_cons] at hz
    rw [lcS_cons (ρ2 := ρ.set i (some d)) (γ1 := γ) (y := h d) (γ2 := γ) rfl rfl (hf d (by simp)) (by omega), lcS_map ds (acc ++ [h d]) (fun x hx => hf x (by simp [hx])) (by rw [List.length_append, List.length_cons, List.length_nil]; omega)]
    simp
theorem bls_map {ds : List D} {p : D → Bool} : D.bls (ds.map fun d => .bl (p d)) = some (ds.map p) := by
  induction ds with
  | nil => rfl
  | cons d ds ih => rw [List.map_cons, D.bls, ih]; rfl
theorem eAnd_t {f g : ESem} {ρ : Env} {γ γ1 : List D} (h : f ρ γ = .ok (.bl true) γ1) : eAnd f g ρ γ = g ρ γ1 := by
  simp only [eAnd, h, Res.bind_ok]
theorem eAnd_f {f g : ESem} {ρ : Env} {γ γ1 : List D} (h : f ρ γ = .ok (.bl false) γ1) : eAnd f g ρ γ = .ok (.bl false) γ1 := by
  simp only [eAnd, h, Res.bind_ok]
theorem var_ok {ρ : Env} {γ : List D} {i : Nat} {d : D} (h : ρ[i]? = some (some d)) (hm : ∀ y, d ≠ .mine y) : eVar i ρ γ = .ok d γ := by
  unfold eVar
  rw [h]
  cases d with
  | mine y => exact absurd rfl (hm y)
  | _ => rfl
theorem word_nm {d : D} (h : d ∈ words) (y : D) : d ≠ .mine y := by
  intro z
  subst z
  simp [words] at h
theorem isProgram_of {ds : List D} {γ : List D} {p : D → Bool} (hl : ds.length ≤ 60) (hm : ∀ d ∈ ds, ∀ y, d ≠ .mine y) (hw : ∀ d ∈ ds, gIsWord [d] γ = .ok (.bl (p d)) γ) : gIsProgram [.tup ds] γ = .ok (.bl (ds.all p)) γ := by
  have e1 : eCmp bLe (eCall dLenA (aCons (eVar 0) aNil)) (eC (.int 60)) [some (.tup ds), none] γ = .ok (.bl true) γ := by
    show Res.ok (D.bl (decide ((ds.length : Int) ≤ 60))) γ = _
    rw [decide_eq_true (by omega)]
  have e2 : eLc (lAny (eVar 0)) [1] (gtN 1) cYesS (eFn 1 gIsWord (aCons (eVar 1) aNil)) [some (.tup ds), none] γ = .ok (.lst (ds.map fun d => .bl (p d))) γ := by
    show Res.bind (lcS (gtN 1) cYesS (eFn 1 gIsWord (aCons (eVar 1) aNil)) [some (.tup ds), none] ds [] γ) _ = _
    rw [lcS_map (h := fun d => .bl (p d)) ds [] (fun d hd => fn_ok (ds := [d]) (acons_ok (var_ok rfl (hm d hd)) rfl) rfl (hw d hd)) (by simp; omega)]
    rfl
  have e3 : eCall dAll (aCons (eLc (lAny (eVar 0)) [1] (gtN 1) cYesS (eFn 1 gIsWord (aCons (eVar 1) aNil))) aNil) [some (.tup ds), none] γ = .ok (.bl (ds.all p)) γ := by
    have q : aCons (eLc (lAny (eVar 0)) [1] (gtN 1) cYesS (eFn 1 gIsWord (aCons (eVar 1) aNil))) aNil [some (.tup ds), none] γ = .ok [.lst (ds.map fun d => .bl (p d))] γ := acons_ok e2 rfl
    simp only [eCall, q, Res.bind_ok, dAll, bls_map, Option.map_some, ofOpt_some]
    congr 2
    rw [List.all_map]
    rfl
  show bodyR (fbIsProgram [some (.tup ds), none] γ) = _
  rw [fbIsProgram, sRet_ok (d := .bl (ds.all p)) (γ1 := γ)]
  · rfl
  · rw [eAnd_t (show eCall dIsi _ [some (.tup ds), none] γ = .ok (.bl true) γ from by kernel_rfl), eAnd_t e1]
    exact e3
theorem isProgram_ok {ds γ : List D} (hl : ds.length ≤ 60) (hw : ∀ d ∈ ds, d ∈ words) : gIsProgram [.tup ds] γ = .ok (.bl true) γ := by
  rw [isProgram_of (p := fun _ => true) hl (fun d hd => word_nm (hw d hd)) fun d hd => isWord_ok (hw d hd) γ]
  simp
theorem needProgram_ok {ds γ : List D} (hl : ds.length ≤ 60) (hw : ∀ d ∈ ds, d ∈ words) : gNeedProgram [.tup ds] γ = .ok .non γ := by
  have e : cNot (cVal (eFn 1 gIsProgram (aCons (eVar 0) aNil))) [some (.tup ds)] γ = .ok false γ := by
    have q : eFn 1 gIsProgram (aCons (eVar 0) aNil) [some (.tup ds)] γ = .ok (.bl true) γ := fn_ok (ds := [.tup ds]) (acons_ok rfl rfl) rfl (isProgram_ok hl hw)
    simp only [cNot, cVal, q, Res.bind_ok]
    rfl
  show bodyR (fbNeedProgram [some (.tup ds)] γ) = _
  rw [fbNeedProgram, sIf_ok e]
  rfl
theorem needProgram_err {x : D} {γ : List D} (h : gIsProgram [x] γ = .ok (.bl false) γ) (hx : ∀ y, x ≠ .mine y) : gNeedProgram [x] γ = .err 1 γ := by
  have e : cNot (cVal (eFn 1 gIsProgram (aCons (eVar 0) aNil))) [some x] γ = .ok true γ := by
    have v : eVar 0 [some x] γ = .ok x γ := var_ok rfl hx
    have q : eFn 1 gIsProgram (aCons (eVar 0) aNil) [some x] γ = .ok (.bl false) γ := fn_ok (ds := [x]) (acons_ok v rfl) rfl h
    simp only [cNot, cVal, q, Res.bind_ok]
    rfl
  show bodyR (fbNeedProgram [some x] γ) = _
  rw [fbNeedProgram, sIf_ok e]
  rfl
theorem toldErr {nm : Nat → Str} {okn : Nat → Bool} {f : ESem} {ρ : Env} {γ γ1 : List D} {n : Nat} (h : f ρ γ = .err n γ1) (ho : okn n = true) : eTold nm okn f ρ γ = .ok (.tup [.str "error", .str (nm n)]) γ1 := by
  simp only [eTold, h, if_pos ho]
theorem toldOk {nm : Nat → Str} {okn : Nat → Bool} {f : ESem} {ρ : Env} {γ γ1 : List D} {d : D} (h : f ρ γ = .ok d γ1) : eTold nm okn f ρ γ = .ok d γ1 := by
  simp only [eTold, h]
theorem fn_err {n c : Nat} {g : List D → List D → Res D} {fs : LSem} {ρ : Env} {γ γ1 γ2 ds : List D} (h : fs ρ γ = .ok ds γ1) (hl : ds.length = n) (h2 : g ds γ1 = .err c γ2) : eFn n g fs ρ γ = .err c γ2 := by
  simp only [eFn, h, Res.bind_ok, if_pos hl, h2]
theorem expr_ok {f : ESem} {ρ : Env} {γ γ1 : List D} {d : D} (h : f ρ γ = .ok d γ1) : sExpr f ρ γ = .nx ρ γ1 := by
  simp only [sExpr, h, toOut_ok]
theorem expr_err {f : ESem} {ρ : Env} {γ γ1 : List D} {c : Nat} (h : f ρ γ = .err c γ1) : sExpr f ρ γ = .err c ρ γ1 := by
  simp only [sExpr, h, toOut_err]
theorem seq_err {f g : SSem} {ρ ρ1 : Env} {γ γ1 : List D} {c : Nat} (h : f ρ γ = .err c ρ1 γ1) : sSeq f g ρ γ = .err c ρ1 γ1 := by
  simp only [sSeq, h]
theorem if_skip {c : CSem} {f : SSem} {ρ : Env} {γ γ1 : List D} (h : c ρ γ = .ok false γ1) : sIf c f sSkip ρ γ = .nx ρ γ1 := by
  rw [sIf_ok h]
  rfl
theorem cCmp_ok {g : D → D → Option Bool} {fa fb : ESem} {ρ : Env} {γ γ1 γ2 : List D} {x y : D} {k : Bool} (h1 : fa ρ γ = .ok x γ1) (h2 : fb ρ γ1 = .ok y γ2) (h3 : g x y = some k) : cCmp g fa fb ρ γ = .ok k γ2 := by
  simp only [cCmp, h1, h2, h3, Res.bind_ok, ofOpt_some]
theorem cVal_ok {f : ESem} {ρ : Env} {γ γ1 : List D} {k : Bool} (h : f ρ γ = .ok (.bl k) γ1) : cVal f ρ γ = .ok k γ1 := by
  simp only [cVal, h, Res.bind_ok]
theorem cNot_ok {f : CSem} {ρ : Env} {γ γ1 : List D} {k : Bool} (h : f ρ γ = .ok k γ1) : cNot f ρ γ = .ok (!k) γ1 := by
  simp only [cNot, h, Res.bind_ok]
/-- a walk whose turns change nothing but the name -/
theorem loop_same {tg : Tgt} {b : SSem} {γ : List D} (I : List (Option D) → Prop) : ∀ (ds : List D) (ρ : List (Option D)), I ρ → (∀ d ∈ ds, ∀ ρ, I ρ → ∃ ρ1 ρ2, tg d ρ = some ρ1 ∧ b ρ1 γ = .nx ρ2 γ ∧ I ρ2) → ∃ ρ', loopS tg b ds ρ γ = .nx ρ' γ ∧ I ρ'
  | [], ρ, h, _ => ⟨ρ, rfl, h⟩
  | d :: ds, ρ, h, hs => by
    obtain ⟨ρ1, ρ2, h1, h2, h3⟩ := hs d (by simp) ρ h
    obtain ⟨ρ', h4, h5⟩ := loop_same I ds ρ2 h3 (fun x hx => hs x (by simp [hx]))
    refine ⟨ρ', ?_, h5⟩
    simp only [loopS, h1, h2]
    exact h4
/-- a walk over cells, each turn of its own -/
theorem loop_cells {b : SSem} (I : List (Option D) → Prop) : ∀ (cs : List Nat) (ρ : List (Option D)) (γ : List D), I ρ → Cells γ → (∀ c ∈ cs, c < γ.length) →
    (∀ (c : Nat) (ρ : List (Option D)) (γ : List D), I ρ → Cells γ → c < γ.length → ∃ ρ2 γ2, b (ρ.set 1 (some (.cell c))) γ = .nx ρ2 γ2 ∧ I ρ2 ∧ Cells γ2 ∧ γ2.length = γ.length) → ∃ ρ' γ', loopS (gtN 1) b (cs.map D.cell) ρ γ = .nx ρ' γ'
  | [], ρ, γ, _, _, _, _ => ⟨ρ, γ, rfl⟩
  | c :: cs, ρ, γ, h, hγ, hc, hs => by
    obtain ⟨ρ2, γ2, e, h2, h3, h4⟩ := hs c ρ γ h hγ (hc c (by simp))
    obtain ⟨ρ', γ', e2⟩ := loop_cells I cs ρ2 γ2 h2 h3 (fun x hx => by rw [h4]; exact hc x (by simp [hx])) hs
    refine ⟨ρ', γ', ?_⟩
    simp only [List.map_cons, loopS, gtN, e]
    exact e2
/-- a law of this family: rounds, each of them well -/
theorem law_rounds {b : SSem} {n : Nat} {m : Int} (I : List (Option D) → Prop) (ns : List Int) (hl : ns.length ≤ 1000) (h1 : 1 ≤ m) (h2 : m ≤ 1000) (h0 : I (startE n [.scr ns])) (hv : ∀ γ, eVar 0 (startE n [.scr ns]) γ = .ok (.scr ns) γ)
    (hs : ∀ (c : Nat) (ρ : List (Option D)) (γ : List D), I ρ → Cells γ → c < γ.length → ∃ ρ2 γ2, b (ρ.set 1 (some (.cell c))) γ = .nx ρ2 γ2 ∧ I ρ2 ∧ Cells γ2 ∧ γ2.length = γ.length) :
    ∃ γ', bodyR (sSeq (sFor (lAny (eFn 2 gRounds (aCons (eVar 0) (aCons (eC (.int m)) aNil)))) (gtN 1) b) (sRet (eC (.bl true))) (startE n [.scr ns]) []) = .ok (.bl true) γ' := by
  obtain ⟨γ1, e1, hγ⟩ := rounds_ok ns hl h1 h2
  obtain ⟨ρ', γ', e2⟩ := loop_cells I (List.range' 0 γ1.length) (startE n [.scr ns]) γ1 h0 hγ (fun c hc => by
    obtain ⟨i, hi, rfl⟩ := List.mem_range'.mp hc
    omega) hs
  refine ⟨γ', ?_⟩
  have e3 : eFn 2 gRounds (aCons (eVar 0) (aCons (eC (.int m)) aNil)) (startE n [.scr ns]) [] = .ok (.lst ((List.range' 0 γ1.length).map D.cell)) γ1 := fn_ok (ds := [.scr ns, .int m]) (acons_ok (hv []) (acons_ok rfl rfl)) rfl e1
  have e4 : lAny (eFn 2 gRounds (aCons (eVar 0) (aCons (eC (.int m)) aNil))) (startE n [.scr ns]) [] = .ok ((List.range' 0 γ1.length).map D.cell) γ1 := by
    unfold lAny byD
    rw [e3]
    simp only [lLst, e3, Res.bind_ok]
    first | rfl | (simp [e3])
  have e5 : sFor (lAny (eFn 2 gRounds (aCons (eVar 0) (aCons (eC (.int m)) aNil)))) (gtN 1) b (startE n [.scr ns]) [] = .nx ρ' γ' := by
    simp only [sFor, e4, toOut_ok]
    exact e2
  rw [sSeq_ok e5]
  rfl
end DL

/-! DN0: what the defs of polynomials and forms do, once for all laws -/
namespace DN
open PySem PySem.Spec PyProof.Rows L2 DL
def t_SHUFFLES : List Str := ["dup", "drop", "swap", "over", "rot", "nip", "tuck"]
def t_WORDS : List Str := ["dup", "drop", "swap", "over", "rot", "nip", "tuck", "add", "sub", "mul", "neg"]
def tab_NEEDS : List (Str × Int) := [("dup", 1), ("drop", 1), ("swap", 2), ("over", 2), ("rot", 3), ("nip", 2), ("tuck", 2), ("add", 2), ("sub", 2), ("mul", 2), ("neg", 1)]
def fb_is_whole : SSem := (sRet (eAnd (eCall dIsi (aCons (eVar 0) (aCons (eC (.raw (.ty "int"))) aNil))) (eAnd (eNot (eCall dIsi (aCons (eVar 0) (aCons (eC (.raw (.ty "bool"))) aNil)))) (eChain bLe bLe (eVar 1) (eVar 0) (eVar 2)))))
def g_is_whole : List D → List D → Res D := fun ds γ => bodyR (fb_is_whole (startE 3 ds) γ)
def fb_is_word : SSem := (sRet (eIf (cVal (eCall dIsi (aCons (eVar 0) (aCons (eC (.raw (.ty "str"))) aNil)))) (eCmp dInA (eVar 0) (eC (.tup (t_WORDS.map D.str)))) (eFn 3 g_is_whole (aCons (eVar 0) (aCons (eNeg (eC (.int 9))) (aCons (eC (.int 9)) aNil))))))
def g_is_word : List D → List D → Res D := fun ds γ => bodyR (fb_is_word (startE 1 ds) γ)
def fb_is_program : SSem := (sRet (eAnd (eCall dIsi (aCons (eVar 0) (aCons (eC (.raw (.ty "tuple"))) aNil))) (eAnd (eCmp bLe (eCall dLenA (aCons (eVar 0) aNil)) (eC (.int 60))) (eCall dAll (aCons (eLc (lAny (eVar 0)) [1] (gtN 1) cYesS (eFn 1 g_is_word (aCons (eVar 1) aNil))) aNil)))))
def g_is_program : List D → List D → Res D := fun ds γ => bodyR (fb_is_program (startE 2 ds) γ)
def fb_need_program : SSem := (sIf (cNot (cVal (eFn 1 g_is_program (aCons (eVar 0) aNil)))) (sErr 1) sSkip)
def g_need_program : List D → List D → Res D := fun ds γ => bodyR (fb_need_program (startE 1 ds) γ)
def fb_written : SSem := (sSeq (sNew 2 (eLst (aLim 1000000 aNil)))
  (sSeq (sFor (lAny (eVar 0)) (gtN 3) (sSeq (sSet 4 (eCall dDict (aCons (eVar 3) aNil)))
  (sApp 2 (eTup (aLim 1000000 (aCons (eCall dTup (aCons (eLc (lRng2 (aCons (eC (.int 1)) (aCons (eOp gAddA (eVar 1) (eC (.int 1))) aNil))) [5] (gtN 5) cYesS (eGetA (eVar 4) (eVar 5) (eC (.int 0)))) aNil)) (aCons (eSubA (eVar 0) (eVar 3)) aNil)))))))
  (sRet (eCall dTup (aCons (eCall dSorted (aCons (eLook 2) aNil)) aNil)))))
def g_written : List D → List D → Res D := fun ds γ => bodyR (fb_written (startE 6 ds) γ)
def fb_Work_told : SSem := (sRet (eTup (aLim 1000000 (aCons (eFld 0 0 (eVar 0)) (aCons (eCall dTup (aCons (eLc (lAny (eFld 0 1 (eVar 0))) [1] (gtN 1) cYesS (eFn 2 g_written (aCons (eVar 1) (aCons (eFld 0 0 (eVar 0)) aNil)))) aNil)) aNil)))))
def g_Work_told : List D → List D → Res D := fun ds γ => bodyR (fb_Work_told (startE 2 ds) γ)
def fb_unknown : SSem := (sRet (eDisp1 (eTupK (aCons (eTupK (aCons (eVar 0) (aCons (eC (.int 1)) aNil))) aNil)) (eC (.int 1))))
def g_unknown : List D → List D → Res D := fun ds γ => bodyR (fb_unknown (startE 1 ds) γ)
def fb_depths_in : SSem := (sRet (eLc2 (lAny (eVar 0)) [1, 2, 3] (gtN 1) (lAny (eVar 1)) [2, 3] (gtP 2 3) (eVar 2)))
def g_depths_in : List D → List D → Res D := fun ds γ => bodyR (fb_depths_in (startE 4 ds) γ)
def fb_stands_in : SSem := (sRet (eCall dAny (aCons (eLc (lAny (eVar 0)) [2] (gtN 2) cYesS (eCmp dInA (eVar 1) (eFn 1 g_depths_in (aCons (eVar 2) aNil)))) aNil)))
def g_stands_in : List D → List D → Res D := fun ds γ => bodyR (fb_stands_in (startE 3 ds) γ)
def fb_Work_core : SSem := (sSeq (sPar 1 2 (eFld 0 0 (eVar 0)) (eCall dLstA (aCons (eFld 0 1 (eVar 0)) aNil)))
  (sSeq (sWhile (cAnd (cCmp bGt (eVar 1) (eC (.int 0))) (cAnd (cCmp dNeN (eVar 2) (eLst (aLim 1000000 aNil))) (cAnd (cCmp dEqN (eSubA (eVar 2) (eC (.int 0))) (eFn 1 g_unknown (aCons (eVar 1) aNil))) (cNot (cVal (eFn 2 g_stands_in (aCons (eSl (eVar 2) (oSome (eC (.int 1))) oNone) (aCons (eVar 1) aNil)))))))) (sPar 1 2 (eOp gSubI (eVar 1) (eC (.int 1))) (eSl (eVar 2) (oSome (eC (.int 1))) oNone)) 64)
  (sRet (eMake 0 (aCons (eVar 1) (aCons (eVar 2) aNil))))))
def g_Work_core : List D → List D → Res D := fun ds γ => bodyR (fb_Work_core (startE 3 ds) γ)
def fb_needed : SSem := (sRet (eIf (cVal (eCall dIsi (aCons (eVar 0) (aCons (eC (.raw (.ty "str"))) aNil)))) (eTab tab_NEEDS (eVar 0)) (eC (.int 0))))
def g_needed : List D → List D → Res D := fun ds γ => bodyR (fb_needed (startE 1 ds) γ)
def fb_laid : SSem := (sSeq (sIf (cCmp dEqN (eVar 0) (eC (.str "dup"))) (sRet (eLst (aLim 1000000 (aCons (eSubA (eVar 1) (eC (.int 0))) (aCons (eSubA (eVar 1) (eC (.int 0))) aNil))))) sSkip)
  (sSeq (sIf (cCmp dEqN (eVar 0) (eC (.str "drop"))) (sRet (eLst (aLim 1000000 aNil))) sSkip)
  (sSeq (sIf (cCmp dEqN (eVar 0) (eC (.str "swap"))) (sRet (eLst (aLim 1000000 (aCons (eSubA (eVar 1) (eC (.int 1))) (aCons (eSubA (eVar 1) (eC (.int 0))) aNil))))) sSkip)
  (sSeq (sIf (cCmp dEqN (eVar 0) (eC (.str "over"))) (sRet (eLst (aLim 1000000 (aCons (eSubA (eVar 1) (eC (.int 0))) (aCons (eSubA (eVar 1) (eC (.int 1))) (aCons (eSubA (eVar 1) (eC (.int 0))) aNil)))))) sSkip)
  (sSeq (sIf (cCmp dEqN (eVar 0) (eC (.str "rot"))) (sRet (eLst (aLim 1000000 (aCons (eSubA (eVar 1) (eC (.int 1))) (aCons (eSubA (eVar 1) (eC (.int 2))) (aCons (eSubA (eVar 1) (eC (.int 0))) aNil)))))) sSkip)
  (sSeq (sIf (cCmp dEqN (eVar 0) (eC (.str "nip"))) (sRet (eLst (aLim 1000000 (aCons (eSubA (eVar 1) (eC (.int 1))) aNil)))) sSkip)
  (sRet (eLst (aLim 1000000 (aCons (eSubA (eVar 1) (eC (.int 1))) (aCons (eSubA (eVar 1) (eC (.int 0))) (aCons (eSubA (eVar 1) (eC (.int 1))) aNil))))))))))))
def g_laid : List D → List D → Res D := fun ds γ => bodyR (fb_laid (startE 2 ds) γ)
def fb_cleaned : SSem := (sRet (eCall dDict (aCons (eLc (lAny (eVar 0)) [1] (gtN 1) (cCmp dNeN (eSubA (eVar 0) (eVar 1)) (eC (.int 0))) (eTup (aLim 1000000 (aCons (eVar 1) (aCons (eSubA (eVar 0) (eVar 1)) aNil))))) aNil)))
def g_cleaned : List D → List D → Res D := fun ds γ => bodyR (fb_cleaned (startE 2 ds) γ)
def fb_checked : SSem := (sSeq (sSet 1 (eFn 1 g_cleaned (aCons (eVar 0) aNil)))
  (sSeq (sSet 2 (eLc (lAny (eVar 1)) [3] (gtN 3) cYesS (eCall dSum (aCons (eLc (lAny (eVar 3)) [4, 5] (gtP 4 5) cYesS (eVar 5)) aNil))))
  (sSeq (sIf (cOr (cCmp bGt (eCall dLenA (aCons (eVar 1) aNil)) (eC (.int 200))) (cVal (eCall dAny (aCons (eLc (lAny (eVar 2)) [6] (gtN 6) cYesS (eCmp bGt (eVar 6) (eC (.int 16)))) aNil)))) (sErr 9) sSkip)
  (sSeq (sIf (cVal (eCall dAny (aCons (eLc (lAny (eVar 1)) [3] (gtN 3) cYesS (eCmp bGt (eCall dAbs (aCons (eSubA (eVar 1) (eVar 3)) aNil)) (eC (.int 1000000000000000000000000000000000000000000000000000000000000)))) aNil))) (sErr 9) sSkip)
  (sRet (eVar 1))))))
def g_checked : List D → List D → Res D := fun ds γ => bodyR (fb_checked (startE 7 ds) γ)
def fb_added : SSem := (sSeq (sNew 3 (eCall dDict (aCons (eVar 0) aNil)))
  (sSeq (sFor (lAny (eVar 1)) (gtN 4) (sDput 3 (eVar 4) (eOp gAddA (eGetA (eLook 3) (eVar 4) (eC (.int 0))) (eOp gMulA (eVar 2) (eSubA (eVar 1) (eVar 4))))))
  (sGive 3 (sRet (eFn 1 g_checked (aCons (eVar 3) aNil))))))
def g_added : List D → List D → Res D := fun ds γ => bodyR (fb_added (startE 5 ds) γ)
def fb_constant : SSem := (sRet (eIf (cCmp dNeN (eVar 0) (eC (.int 0))) (eDisp1 (eTupK aNil) (eVar 0)) (eC (.dic []))))
def g_constant : List D → List D → Res D := fun ds γ => bodyR (fb_constant (startE 1 ds) γ)
def fb_joint : SSem := (sSeq (sNew 2 (eCall dDict (aCons (eVar 0) aNil)))
  (sSeq (sFor (lAny (eVar 1)) (gtP 3 4) (sPutK 2 (eVar 3) (eOp gAddA (eGetA (eLook 2) (eVar 3) (eC (.int 0))) (eVar 4))))
  (sRet (eCall dTupK (aCons (eLc (lAny (eCall dSorted (aCons (eCall dLstA (aCons (eLook 2) aNil)) aNil))) [3] (gtN 3) cYesS (eTupK (aCons (eVar 3) (aCons (eSubP (eLook 2) (eVar 3)) aNil)))) aNil)))))
def g_joint : List D → List D → Res D := fun ds γ => bodyR (fb_joint (startE 5 ds) γ)
def fb_product : SSem := (sSeq (sNew 2 (eC (.dic [])))
  (sSeq (sFor (lAny (eVar 0)) (gtN 3) (sFor (lAny (eVar 1)) (gtN 4) (sSeq (sSet 5 (eFn 2 g_joint (aCons (eVar 3) (aCons (eVar 4) aNil))))
  (sDput 2 (eVar 5) (eOp gAddA (eGetA (eLook 2) (eVar 5) (eC (.int 0))) (eOp gMulA (eSubA (eVar 0) (eVar 3)) (eSubA (eVar 1) (eVar 4))))))))
  (sGive 2 (sRet (eFn 1 g_checked (aCons (eVar 2) aNil))))))
def g_product : List D → List D → Res D := fun ds γ => bodyR (fb_product (startE 6 ds) γ)
def fb_led : SSem := (sSeq (sIf (cNot (cVal (eCall dIsi (aCons (eVar 0) (aCons (eC (.raw (.ty "str"))) aNil))))) (sRet (eLst (aLim 1000000 (aCons (eFn 1 g_constant (aCons (eVar 0) aNil)) aNil)))) sSkip)
  (sSeq (sIf (cCmp dInA (eVar 0) (eC (.tup (t_SHUFFLES.map D.str)))) (sRet (eFn 2 g_laid (aCons (eVar 0) (aCons (eVar 1) aNil)))) sSkip)
  (sSeq (sIf (cCmp dEqN (eVar 0) (eC (.str "neg"))) (sRet (eLst (aLim 1000000 (aCons (eFn 3 g_added (aCons (eC (.dic [])) (aCons (eSubA (eVar 1) (eC (.int 0))) (aCons (eNeg (eC (.int 1))) aNil)))) aNil)))) sSkip)
  (sSeq (sIf (cCmp dEqN (eVar 0) (eC (.str "mul"))) (sRet (eLst (aLim 1000000 (aCons (eFn 2 g_product (aCons (eSubA (eVar 1) (eC (.int 0))) (aCons (eSubA (eVar 1) (eC (.int 1))) aNil))) aNil)))) sSkip)
  (sRet (eLst (aLim 1000000 (aCons (eFn 3 g_added (aCons (eSubA (eVar 1) (eC (.int 0))) (aCons (eSubA (eVar 1) (eC (.int 1))) (aCons (eIf (cCmp dEqN (eVar 0) (eC (.str "add"))) (eC (.int 1)) (eNeg (eC (.int 1)))) aNil)))) aNil))))))))
def g_led : List D → List D → Res D := fun ds γ => bodyR (fb_led (startE 2 ds) γ)
def fb_Work_behind : SSem := (sSeq (sPar 3 4 (eFld 0 0 (eVar 0)) (eCall dLstA (aCons (eFld 0 1 (eVar 0)) aNil)))
  (sSeq (sSet 2 (eFn 1 g_needed (aCons (eVar 1) aNil)))
  (sSeq (sWhile (cCmp bLt (eCall dLenA (aCons (eVar 4) aNil)) (eVar 2)) (sSeq (sSet 3 (eOp gAddA (eVar 3) (eC (.int 1))))
  (sSet 4 (eOp gAddA (eLst (aLim 1000000 (aCons (eFn 1 g_unknown (aCons (eVar 3) aNil)) aNil))) (eVar 4)))) 64)
  (sSeq (sPar 5 6 (eSl (eVar 4) oNone (oSome (eOp gSubI (eCall dLenA (aCons (eVar 4) aNil)) (eVar 2)))) (eSl (eVar 4) (oSome (eOp gSubI (eCall dLenA (aCons (eVar 4) aNil)) (eVar 2))) oNone))
  (sRet (eMake 0 (aCons (eVar 3) (aCons (eOp gAddA (eVar 5) (eFn 2 g_led (aCons (eVar 1) (aCons (eVar 6) aNil)))) aNil))))))))
def g_Work_behind : List D → List D → Res D := fun ds γ => bodyR (fb_Work_behind (startE 7 ds) γ)
def fb_work_of : SSem := (sSeq (sSet 1 (eMake 0 (aCons (eC (.int 0)) (aCons (eLst (aLim 1000000 aNil)) aNil))))
  (sSeq (sFor (lAny (eVar 0)) (gtN 2) (sSet 1 (eMeth 0 2 g_Work_behind (eVar 1) (aCons (eVar 2) aNil))))
  (sRet (eVar 1))))
def g_work_of : List D → List D → Res D := fun ds γ => bodyR (fb_work_of (startE 3 ds) γ)
def fb_core : SSem := (sSeq (sExpr (eFn 1 g_need_program (aCons (eVar 0) aNil)))
  (sRet (eMeth0 0 1 g_Work_told (eMeth0 0 1 g_Work_core (eFn 1 g_work_of (aCons (eVar 0) aNil))))))
def g_core : List D → List D → Res D := fun ds γ => bodyR (fb_core (startE 1 ds) γ)end DN

/-! DN1: comprehensions, loops; monomials and what joint does of them -/
namespace DN
open PySem PySem.Spec PyProof.Rows L2 DL
/-! ### comprehensions and loops -/
theorem lcS_gen {tg : Tgt} {c : CSem} {f : ESem} {ρ : DL.Env} {γ : List D} {k : D → Bool} {h : D → D} : ∀ (ds acc : List D), acc.length + ds.length ≤ 1000000 →
    (∀ d ∈ ds, ∃ ρ2, tg d ρ = some ρ2 ∧ c ρ2 γ = .ok (k d) γ ∧ (k d = true → f ρ2 γ = .ok (h d) γ)) → lcS tg c f ρ ds acc γ = .ok (acc ++ (ds.filter k).map h) γ
  | [], acc, _, _ => by simp [lcS]
  | d :: ds, acc, hl, hd => by
    obtain ⟨ρ2, e1, e2, e3⟩ := hd d (by simp)
    have ih := fun acc' (hl' : acc'.length + ds.length ≤ 1000000) => lcS_gen ds acc' hl' fun d' h' => hd d' (by simp [h'])
    simp only [List.length_cons] at hl
    rw [lcS, e1]
    dsimp only
    rw [e2]
    cases q : k d with
    | true =>
      dsimp only
      rw [e3 q]
      dsimp only
      rw [if_pos (by omega), ih _ (by simp; omega)]
      simp [q]
    | false =>
      dsimp only
      rw [ih _ (by omega)]
      simp [q]
theorem lcS_map {i : Nat} {f : ESem} {ρ : DL.Env} {γ : List D} {h : D → D} {ds : List D} (hl : ds.length ≤ 1000000) (hd : ∀ d ∈ ds, f (ρ.set i (some d)) γ = .ok (h d) γ) : lcS (gtN i) cYesS f ρ ds [] γ = .ok (ds.map h) γ := by
  have := lcS_gen (tg := gtN i) (c := cYesS) (f := f) (ρ := ρ) (γ := γ) (k := fun _ => true) (h := h) ds [] (by simpa using hl) fun d h' => ⟨_, rfl, rfl, fun _ => hd d h'⟩
  rw [List.filter_eq_self.mpr (fun _ _ => rfl), List.nil_append] at this
  exact this
theorem loop_R {S α : Type} {f : α → D} {tg : Tgt} {body : SSem} {γ : List D} {R : Nat → S → DL.Env → Prop} {step : S → α → S} (N : Nat) : ∀ (xs : List α) (n : Nat) (s : S) (ρ : DL.Env), n + xs.length ≤ N → R n s ρ →
    (∀ x ∈ xs, ∀ n s ρ, n < N → R n s ρ → ∃ ρ1 ρ2, tg (f x) ρ = some ρ1 ∧ body ρ1 γ = .nx ρ2 γ ∧ R (n + 1) (step s x) ρ2) → ∃ ρ', loopS tg body (xs.map f) ρ γ = .nx ρ' γ ∧ R (n + xs.length) (xs.foldl step s) ρ'
  | [], n, s, ρ, _, r, _ => ⟨ρ, rfl, r⟩
  | d :: ds, n, s, ρ, hN, r, h => by
    rw [List.length_cons] at hN
    obtain ⟨ρ1, ρ2, e1, e2, r2⟩ := h d (by simp) n s ρ (by omega) r
    obtain ⟨ρ', e3, r3⟩ := loop_R N ds (n + 1) (step s d) ρ2 (by omega) r2 fun d' h' => h d' (by simp [h'])
    refine ⟨ρ', ?_, by rw [List.length_cons, Nat.add_comm ds.length 1, ← Nat.add_assoc]; exact r3⟩
    simp only [List.map_cons, loopS, e1, e2]
    exact e3
/-! ### monomials -/
abbrev Mn := List (Int × Int)
def mkP (p : Int × Int) : NestedKey := .tup [.num p.1, .num p.2]
def mkK (m : Mn) : NestedKey := .tup (m.map mkP)
theorem mkP_inj {p q : Int × Int} (h : mkP p = mkP q) : p = q := by
  unfold mkP at h
  injection h with h
  injection h with h1 h
  injection h with h2 _
  injection h1 with h1
  injection h2 with h2
  exact Prod.ext h1 h2
theorem mkPs_inj : ∀ {a b : Mn}, a.map mkP = b.map mkP → a = b
  | [], [], _ => rfl
  | [], _ :: _, h => by simp at h
  | _ :: _, [], h => by simp at h
  | x :: a, y :: b, h => by
    rw [List.map_cons, List.map_cons] at h
    injection h with h1 h2
    rw [mkP_inj h1, mkPs_inj h2]
theorem mkK_inj {a b : Mn} (h : mkK a = mkK b) : a = b := by
  unfold mkK at h
  injection h with h
  exact mkPs_inj h
/-! a dict from depths to powers -/
def setA (t : Mn) (d p : Int) : Mn := if t.any (fun x => decide (x.1 = d)) = true then t.map (fun x => (x.1, if x.1 = d then p else x.2)) else t ++ [(d, p)]
def getA (t : Mn) (d : Int) : Option Int := match t with
  | [] => none
  | x :: t => if x.1 = d then some x.2 else getA t d
def kA (t : Mn) : List FKey := t.map fun x => .inl x.1
def vA (t : Mn) : List D := t.map fun x => .int x.2
theorem kHas_A (t : Mn) (d : Int) : kHas (kA t) (.inl d) = t.any fun x => decide (x.1 = d) := by
  unfold kHas kA
  rw [List.any_map]
  congr 1
  funext x
  simp
theorem kSet_A (d p : Int) : ∀ t : Mn, kSet (kA t) (vA t) (.inl d) (.int p) = vA (t.map fun x => (x.1, if x.1 = d then p else x.2))
  | [] => rfl
  | x :: t => by
    have ih := kSet_A d p t
    unfold kA vA at ih ⊢
    simp only [List.map_cons, kSet]
    rw [ih]
    congr 1
    by_cases h : x.1 = d <;> simp [h]
theorem set_A (t : Mn) (d p : Int) : kKeys (kA t) (.inl d) = kA (setA t d p) ∧ kVals (kA t) (vA t) (.inl d) (.int p) = vA (setA t d p) := by
  unfold kKeys kVals setA
  rw [kHas_A]
  by_cases h : t.any (fun x => decide (x.1 = d)) = true
  · rw [if_pos h, if_pos h, if_pos h]
    refine ⟨?_, kSet_A d p t⟩
    unfold kA
    rw [List.map_map]
    rfl
  · rw [if_neg h, if_neg h, if_neg h]
    unfold kA vA
    simp
theorem get_A (d : Int) : ∀ t : Mn, kGet (kA t) (vA t) (.inl d) = (getA t d).map D.int
  | [] => rfl
  | x :: t => by
    have ih := get_A d t
    unfold kA vA at ih ⊢
    simp only [List.map_cons, kGet, getA]
    by_cases h : x.1 = d
    · simp [h]
    · simp [h, ih]
theorem pairsK_A : ∀ t : Mn, pairsK (t.map mkP) = some (t.map fun x => (.inl x.1, .num x.2))
  | [] => rfl
  | x :: t => by
    rw [List.map_cons, mkP, pairsK, pairsK_A t]
    rfl
/-- depths are apart -/
def NdA (t : Mn) : Prop := (t.map (·.1)).Nodup
theorem dikOf_A : ∀ (t s : Mn), (s ++ t).map (·.1) |>.Nodup → (t.map fun x : Int × Int => ((.inl x.1 : FKey), NestedKey.num x.2)).foldl (fun (acc : List FKey × List D) p => (kKeys acc.1 p.1, kVals acc.1 acc.2 p.1 (ofKey p.2))) (kA s, vA s) = (kA (s ++ t), vA (s ++ t))
  | [], s, _ => by simp
  | x :: t, s, h => by
    rw [List.map_cons, List.foldl_cons]
    dsimp only
    have e : setA s x.1 x.2 = s ++ [x] := by
      unfold setA
      rw [if_neg]
      intro z
      rw [List.any_eq_true] at z
      obtain ⟨y, hy, e⟩ := z
      rw [decide_eq_true_eq] at e
      rw [List.map_append, List.nodup_append] at h
      exact h.2.2 y.1 (List.mem_map_of_mem hy) x.1 (by simp) e
    rw [show ofKey (NestedKey.num x.2) = D.int x.2 from rfl, (set_A s x.1 x.2).1, (set_A s x.1 x.2).2, e]
    have := dikOf_A t (s ++ [x]) (by simpa using h)
    rw [this]
    simp
theorem dDict_A {t : Mn} (h : NdA t) (hl : t.length ≤ 1000000) : dDict [.nk (mkK t)] = some (.dik (kA t) (vA t)) := by
  have e : dDictK [.nk (mkK t)] = some (.dik (kA t) (vA t)) := by
    rw [mkK, dDictK, pairsK_A]
    dsimp only
    rw [if_pos (by simpa using hl)]
    have := dikOf_A t [] (by unfold NdA at h; simpa using h)
    unfold dikOf
    rw [show (([], []) : List FKey × List D) = (kA [], vA []) from rfl, this]
    simp
  unfold dDict callOr
  rw [show dCopy [.nk (mkK t)] = none from rfl]
  dsimp only
  rw [show dDictP [.nk (mkK t)] = none from rfl]
  exact e
/-! ### sorting depths -/
def insI (x : Int) : List Int → List Int
  | [] => [x]
  | y :: ys => if x ≤ y then x :: y :: ys else y :: insI x ys
def sortI : List Int → List Int
  | [] => []
  | x :: xs => insI x (sortI xs)
theorem leD_int (i j : Int) : leD (.int i) (.int j) = decide (i ≤ j) := by
  show (!(decide (j < i) || (!(decide (i < j)) && false))) = _
  by_cases h : i ≤ j
  · rw [decide_eq_true h, decide_eq_false (show ¬ j < i by omega)]
    simp
  · rw [decide_eq_false h, decide_eq_true (show j < i by omega)]
    simp
theorem ins_int (x : Int) : ∀ ys : List Int, insD (.int x) (ys.map D.int) = (insI x ys).map D.int
  | [] => rfl
  | y :: ys => by
    rw [List.map_cons, insD, leD_int, insI]
    by_cases h : x ≤ y
    · simp [h]
    · simp [h, ins_int x ys]
theorem sort_int : ∀ xs : List Int, sortD (xs.map D.int) = (sortI xs).map D.int
  | [] => rfl
  | x :: xs => by rw [List.map_cons, sortD, sort_int xs, ins_int, sortI]
theorem plains_int {n : Nat} : ∀ xs : List Int, D.plains (n + 1) (xs.map D.int) = true
  | [] => rfl
  | x :: xs => by rw [List.map_cons, D.plains, plains_int xs]; rfl
theorem dSorted_int {xs : List Int} (h : xs.length ≤ 1000000) : dSorted [.lst (xs.map D.int)] = some (.lst ((sortI xs).map D.int)) := by
  rw [dSorted, if_pos, sort_int]
  simp only [Bool.and_eq_true, decide_eq_true_eq, Bool.or_eq_true]
  refine ⟨⟨⟨plains_int xs, ?_⟩, .inr ?_⟩, by simpa using h⟩
  · rw [List.all_eq_true]
    intro a ha
    obtain ⟨i, _, rfl⟩ := List.mem_map.mp ha
    rw [List.all_eq_true]
    intro b hb
    obtain ⟨j, _, rfl⟩ := List.mem_map.mp hb
    rfl
  · rw [List.all_eq_true]
    intro a ha
    obtain ⟨i, _, rfl⟩ := List.mem_map.mp ha
    rfl
/-! ### joint -/
def jt (a b : Mn) : Mn := b.foldl (fun t x => setA t x.1 ((getA t x.1).getD 0 + x.2)) a
def jn (a b : Mn) : Mn := (sortI ((jt a b).map (·.1))).map fun d => (d, (getA (jt a b) d).getD 0)
theorem getA_some {t : Mn} {d : Int} : d ∈ t.map (·.1) → ∃ p, getA t d = some p := by
  induction t with
  | nil => intro h; simp at h
  | cons x t ih =>
    intro h
    rw [getA]
    by_cases e : x.1 = d
    · exact ⟨x.2, by rw [if_pos e]⟩
    · rw [if_neg e]
      refine ih ?_
      rw [List.map_cons, List.mem_cons] at h
      exact h.resolve_left fun z => e z.symm
theorem setA_len (t : Mn) (d p : Int) : (setA t d p).length ≤ t.length + 1 := by
  unfold setA
  split <;> simp
theorem jt_len (b : Mn) : ∀ a : Mn, (jt a b).length ≤ a.length + b.length := by
  induction b with
  | nil => intro a; simp [jt]
  | cons x b ih =>
    intro a
    have h1 := ih (setA a x.1 ((getA a x.1).getD 0 + x.2))
    have h2 := setA_len a x.1 ((getA a x.1).getD 0 + x.2)
    have : jt a (x :: b) = jt (setA a x.1 ((getA a x.1).getD 0 + x.2)) b := rfl
    rw [this, List.length_cons]
    omega
theorem insI_mem {x z : Int} : ∀ {ys : List Int}, z ∈ insI x ys ↔ z = x ∨ z ∈ ys
  | [] => by simp [insI]
  | y :: ys => by
    rw [insI]
    split
    · simp
    · rw [List.mem_cons, insI_mem, List.mem_cons]
      constructor
      · rintro (h | h | h)
        · exact .inr (.inl h)
        · exact .inl h
        · exact .inr (.inr h)
      · rintro (h | h | h)
        · exact .inr (.inl h)
        · exact .inl h
        · exact .inr (.inr h)
theorem sortI_mem {z : Int} : ∀ {xs : List Int}, z ∈ sortI xs ↔ z ∈ xs
  | [] => by simp [sortI]
  | x :: xs => by rw [sortI, insI_mem, sortI_mem, List.mem_cons]
theorem insI_len (x : Int) : ∀ ys : List Int, (insI x ys).length = ys.length + 1
  | [] => rfl
  | y :: ys => by
    rw [insI]
    split
    · simp
    · simp [insI_len x ys]
theorem sortI_len : ∀ xs : List Int, (sortI xs).length = xs.length
  | [] => rfl
  | x :: xs => by rw [sortI, insI_len, sortI_len xs]; simp
theorem keys_mkP : ∀ (m : Mn), D.keys (m.map fun x => D.nk (mkP x)) = some (m.map mkP)
  | [] => rfl
  | x :: m => by rw [List.map_cons, D.keys, keys_mkP m]; rfl
theorem eCall_ok {g : List D → Option D} {fs : LSem} {ρ : DL.Env} {γ γ1 : List D} {ds : List D} {d : D} (h : fs ρ γ = .ok ds γ1) (h2 : g ds = some d) : eCall g fs ρ γ = .ok d γ1 := by
  simp only [eCall, h, h2, Res.bind_ok, ofOpt_some]
theorem sNew_ok {i : Nat} {f : ESem} {ρ : DL.Env} {γ γ1 : List D} {d : D} (h : f ρ γ = .ok d γ1) : sNew i f ρ γ = .nx (ρ.set i (some (.mine d))) γ1 := by
  simp only [sNew, h, toOut_ok]
theorem sFor_ok {fi : LSem} {tg : Tgt} {body : SSem} {ρ ρ' : DL.Env} {γ γ1 γ2 : List D} {ds : List D} (h : fi ρ γ = .ok ds γ1) (h2 : loopS tg body ds ρ γ1 = .nx ρ' γ2) : sFor fi tg body ρ γ = .nx ρ' γ2 := by
  simp only [sFor, h, toOut_ok, h2]
theorem eLc_ok {fi : LSem} {ws : List Nat} {tg : Tgt} {c : CSem} {f : ESem} {ρ : DL.Env} {γ γ1 γ2 : List D} {ds ys : List D} (h : fi ρ γ = .ok ds γ1) (h2 : lcS tg c f (wipeE ρ ws) ds [] γ1 = .ok ys γ2) : eLc fi ws tg c f ρ γ = .ok (.lst ys) γ2 := by
  simp only [eLc, h, Res.bind_ok, h2]
theorem lAny_nk {f : ESem} {ρ : DL.Env} {γ γ1 : List D} {ks : List NestedKey} (h : f ρ γ = .ok (.nk (.tup ks)) γ1) : lAny f ρ γ = .ok (ofKeys ks) γ1 := by
  unfold lAny byD
  rw [h]
  simp only [D.isLst, D.isDic, D.isNk, lNk, h, Res.bind_ok]
  rfl
theorem lAny_dic {f : ESem} {ρ : DL.Env} {γ γ1 : List D} {kvs : List (NestedKey × V)} (h : f ρ γ = .ok (.dic kvs) γ1) : lAny f ρ γ = .ok (kvs.map fun p => ofKey p.1) γ1 := by
  unfold lAny byD
  rw [h]
  simp only [D.isLst, D.isDic, lDic, h, Res.bind_ok]
  rfl
theorem lAny_lst {f : ESem} {ρ : DL.Env} {γ γ1 : List D} {ds : List D} (h : f ρ γ = .ok (.lst ds) γ1) : lAny f ρ γ = .ok ds γ1 := by
  unfold lAny byD
  rw [h]
  simp only [D.isLst, lLst, h, Res.bind_ok]
  rfl
theorem joint_ok {a b : Mn} (ha : NdA a) (hla : a.length ≤ 1000) (hlb : b.length ≤ 1000) (γ : List D) : g_joint [.nk (mkK a), .nk (mkK b)] γ = .ok (.nk (mkK (jn a b))) γ := by
  show bodyR (fb_joint [some (.nk (mkK a)), some (.nk (mkK b)), none, none, none] γ) = _
  have e1 : sNew 2 (eCall dDict (aCons (eVar 0) aNil)) [some (.nk (mkK a)), some (.nk (mkK b)), none, none, none] γ = .nx [some (.nk (mkK a)), some (.nk (mkK b)), some (.mine (.dik (kA a) (vA a))), none, none] γ :=
    sNew_ok (eCall_ok (acons_ok rfl rfl) (dDict_A ha (by omega)))
  have hsrc : ∀ x y z, lAny (eVar 1) [some (.nk (mkK a)), some (.nk (mkK b)), x, y, z] γ = .ok (b.map fun p => D.nk (mkP p)) γ := fun x y z => by
    rw [lAny_nk (ks := b.map mkP) rfl]
    unfold ofKeys
    rw [List.map_map]
    rfl
  obtain ⟨ρ', e2, hl, y, z, rfl⟩ := loop_R (S := Mn) (f := fun p => D.nk (mkP p)) (tg := gtP 3 4) (γ := γ) (body := sPutK 2 (eVar 3) (eOp gAddA (eGetA (eLook 2) (eVar 3) (eC (.int 0))) (eVar 4)))
    (R := fun n t ρ => t.length ≤ 1000 + n ∧ ∃ y z, ρ = [some (.nk (mkK a)), some (.nk (mkK b)), some (.mine (.dik (kA t) (vA t))), y, z])
    (step := fun t x => setA t x.1 ((getA t x.1).getD 0 + x.2)) 1000 b 0 a [some (.nk (mkK a)), some (.nk (mkK b)), some (.mine (.dik (kA a) (vA a))), none, none] (by omega) ⟨by omega, none, none, rfl⟩ (fun x hx n t ρ hn hr => by
      obtain ⟨hl, y, z, rfl⟩ := hr
      have hv : eOp gAddA (eGetA (eLook 2) (eVar 3) (eC (.int 0))) (eVar 4) [some (.nk (mkK a)), some (.nk (mkK b)), some (.mine (.dik (kA t) (vA t))), some (.int x.1), some (.int x.2)] γ = .ok (.int ((getA t x.1).getD 0 + x.2)) γ := by
        refine eOp_ok (x := .int ((getA t x.1).getD 0)) (y := .int x.2) (γ1 := γ) ?_ rfl rfl
        show Res.ok ((kGet (kA t) (vA t) (.inl x.1)).getD (.int 0)) γ = _
        rw [get_A]
        cases getA t x.1 <;> rfl
      refine ⟨_, [some (.nk (mkK a)), some (.nk (mkK b)), some (.mine (.dik (kA (setA t x.1 ((getA t x.1).getD 0 + x.2))) (vA (setA t x.1 ((getA t x.1).getD 0 + x.2))))), some (.int x.1), some (.int x.2)], rfl, ?_, ?_, _, _, rfl⟩
      · show sPutK 2 (eVar 3) (eOp gAddA (eGetA (eLook 2) (eVar 3) (eC (.int 0))) (eVar 4)) [some (.nk (mkK a)), some (.nk (mkK b)), some (.mine (.dik (kA t) (vA t))), some (.int x.1), some (.int x.2)] γ = _
        unfold sPutK
        rw [hv, toOut_ok]
        show (if (kA t).length < 1000000 then Out.nx [some (.nk (mkK a)), some (.nk (mkK b)), some (.mine (.dik (kKeys (kA t) (.inl x.1)) (kVals (kA t) (vA t) (.inl x.1) (.int ((getA t x.1).getD 0 + x.2))))), some (.int x.1), some (.int x.2)] γ else .stuck) = _
        rw [(set_A t x.1 ((getA t x.1).getD 0 + x.2)).1, (set_A t x.1 ((getA t x.1).getD 0 + x.2)).2, if_pos (by unfold kA; rw [List.length_map]; omega)]
      · have := setA_len t x.1 ((getA t x.1).getD 0 + x.2)
        omega)
  have e3 : sFor (lAny (eVar 1)) (gtP 3 4) (sPutK 2 (eVar 3) (eOp gAddA (eGetA (eLook 2) (eVar 3) (eC (.int 0))) (eVar 4))) [some (.nk (mkK a)), some (.nk (mkK b)), some (.mine (.dik (kA a) (vA a))), none, none] γ = .nx [some (.nk (mkK a)), some (.nk (mkK b)), some (.mine (.dik (kA (jt a b)) (vA (jt a b)))), y, z] γ := sFor_ok (hsrc _ _ _) e2
  have e4 : eCall dTupK (aCons (eLc (lAny (eCall dSorted (aCons (eCall dLstA (aCons (eLook 2) aNil)) aNil))) [3] (gtN 3) cYesS (eTupK (aCons (eVar 3) (aCons (eSubP (eLook 2) (eVar 3)) aNil)))) aNil) [some (.nk (mkK a)), some (.nk (mkK b)), some (.mine (.dik (kA (jt a b)) (vA (jt a b)))), y, z] γ = .ok (.nk (mkK (jn a b))) γ := by
    have hjl := jt_len b a
    refine eCall_ok (ds := [.lst ((jn a b).map fun x => D.nk (mkP x))]) (acons_ok (eLc_ok (ds := (sortI ((jt a b).map (·.1))).map D.int) (lAny_lst (eCall_ok (ds := [.lst (((jt a b).map (·.1)).map D.int)]) (acons_ok (eCall_ok (ds := [.dik (kA (jt a b)) (vA (jt a b))]) (acons_ok rfl rfl) ?_) rfl) (dSorted_int (by simp; omega)))) ?_) rfl) ?_
    · show some (D.lst ((kA (jt a b)).map ofF)) = _
      unfold kA
      rw [List.map_map, List.map_map]
      rfl
    · rw [lcS_map (h := fun d => match d with | .int i => D.nk (mkP (i, (getA (jt a b) i).getD 0)) | _ => .non)]
      · unfold jn
        rw [List.map_map, List.map_map]
        rfl
      · simp [sortI_len]; omega
      · intro d hd
        obtain ⟨i, hi, rfl⟩ := List.mem_map.mp hd
        obtain ⟨p, hp⟩ := getA_some (sortI_mem.mp hi)
        have hg : eSubP (eLook 2) (eVar 3) [some (.nk (mkK a)), some (.nk (mkK b)), some (.mine (.dik (kA (jt a b)) (vA (jt a b)))), some (.int i), z] γ = .ok (.int p) γ := by
          show ofOpt (kGet (kA (jt a b)) (vA (jt a b)) (.inl i)) γ = _
          rw [get_A, hp]
          rfl
        show eTupK (aCons (eVar 3) (aCons (eSubP (eLook 2) (eVar 3)) aNil)) [some (.nk (mkK a)), some (.nk (mkK b)), some (.mine (.dik (kA (jt a b)) (vA (jt a b)))), some (.int i), z] γ = _
        have ha2 : aCons (eVar 3) (aCons (eSubP (eLook 2) (eVar 3)) aNil) [some (.nk (mkK a)), some (.nk (mkK b)), some (.mine (.dik (kA (jt a b)) (vA (jt a b)))), some (.int i), z] γ = .ok [.int i, .int p] γ := acons_ok rfl (acons_ok hg rfl)
        simp only [eTupK, ha2, Res.bind_ok]
        rw [hp]
        rfl
    · show (D.keys ((jn a b).map fun x => D.nk (mkP x))).map (fun ks => D.nk (.tup ks)) = _
      rw [keys_mkP]
      rfl
  rw [fb_joint, sSeq_ok e1, sSeq_ok e3, sRet_ok e4]
  rfl
end DN

/-! DN2: polynomials: what product, added, cleaned, checked do of them -/
namespace DN
open PySem PySem.Spec PyProof.Rows L2 DL
abbrev Pl := List (Mn × Int)
def dP (p : Pl) : List (NestedKey × V) := p.map fun t => (mkK t.1, V.int t.2)
def hasP (p : Pl) (m : Mn) : Bool := p.any fun t => decide (t.1 = m)
def putP (p : Pl) (m : Mn) (c : Int) : Pl := if hasP p m = true then p.map (fun t => (t.1, if t.1 = m then c else t.2)) else p ++ [(m, c)]
def getP (p : Pl) (m : Mn) : Option Int := match p with
  | [] => none
  | t :: p => if t.1 = m then some t.2 else getP p m
theorem dget_dP (m : Mn) : ∀ p : Pl, dget (dP p) (mkK m) = (getP p m).map V.int
  | [] => rfl
  | t :: p => by
    have ih := dget_dP m p
    unfold dget dP at ih ⊢
    rw [List.map_cons, List.find?_cons, getP]
    by_cases h : t.1 = m
    · rw [h]; simp
    · have : mkK t.1 ≠ mkK m := fun z => h (mkK_inj z)
      simp [h, this]
      simpa using ih
theorem find_dP (m : Mn) (p : Pl) : ((dP p).find? fun q => decide (q.1 = mkK m)).isSome = hasP p m := by
  unfold dP hasP
  induction p with
  | nil => rfl
  | cons t p ih =>
    rw [List.map_cons, List.find?_cons, List.any_cons]
    by_cases h : t.1 = m
    · simp [h]
    · have : mkK t.1 ≠ mkK m := fun z => h (mkK_inj z)
      simp only [decide_eq_false this, decide_eq_false h, Bool.false_or]
      exact ih
theorem dput_dP (p : Pl) (m : Mn) (c : Int) : dput (dP p) (mkK m) (.int c) = dP (putP p m c) := by
  unfold dput putP
  rw [find_dP]
  by_cases h : hasP p m = true
  · rw [if_pos h, if_pos h]
    unfold dP
    rw [List.map_map, List.map_map]
    refine List.map_congr_left fun t _ => ?_
    by_cases e : t.1 = m
    · simp [e]
    · have : mkK t.1 ≠ mkK m := fun z => e (mkK_inj z)
      simp [e, this]
  · rw [if_neg h, if_neg h]
    unfold dP
    simp
theorem depth_le (m : Mn) : (mkK m).depth ≤ 8 := by
  have h2 : ∀ p : Int × Int, (mkP p).depth ≤ 2 := fun p => by
    unfold mkP
    simp [NestedKey.depth, NestedKey.depthAll]
  have h3 : ∀ l : Mn, NestedKey.depthAll (l.map mkP) ≤ 2 := fun l => by
    induction l with
    | nil => simp [NestedKey.depthAll]
    | cons x l ih =>
      rw [List.map_cons, NestedKey.depthAll]
      have := h2 x
      omega
  unfold mkK
  rw [NestedKey.depth]
  have := h3 m
  omega
theorem tkey_mk (m : Mn) : D.tkey (.nk (mkK m)) = some (mkK m) := by
  unfold D.tkey D.key
  have := depth_le m
  unfold mkK at this ⊢
  dsimp only
  rw [if_pos this]
theorem keys_dP (p : Pl) : (dP p).map (fun q => ofKey q.1) = p.map fun t => D.nk (mkK t.1) := by
  unfold dP
  rw [List.map_map]
  rfl
theorem lAny_dP {f : ESem} {ρ : DL.Env} {γ γ1 : List D} {p : Pl} (h : f ρ γ = .ok (.dic (dP p)) γ1) : lAny f ρ γ = .ok (p.map fun t => D.nk (mkK t.1)) γ1 := by
  rw [lAny_dic h, keys_dP]
def NdP (p : Pl) : Prop := (p.map (·.1)).Nodup
theorem getP_mem {p : Pl} (h : NdP p) : ∀ {t : Mn × Int}, t ∈ p → getP p t.1 = some t.2 := by
  induction p with
  | nil => intro t h; simp at h
  | cons s p ih =>
    intro t ht
    unfold NdP at h
    rw [List.map_cons, List.nodup_cons] at h
    rw [getP]
    rcases List.mem_cons.mp ht with rfl | ht
    · rw [if_pos rfl]
    · rw [if_neg (fun e => h.1 (by rw [e]; exact List.mem_map_of_mem ht))]
      exact ih h.2 ht
theorem eSubA_dP {f g : ESem} {ρ : DL.Env} {γ : List D} {p : Pl} {m : Mn} {c : Int} (h : f ρ γ = .ok (.dic (dP p)) γ) (h2 : g ρ γ = .ok (.nk (mkK m)) γ) (h3 : getP p m = some c) : eSubA f g ρ γ = .ok (.int c) γ := by
  have : eItem f g ρ γ = .ok (.int c) γ := by
    simp only [eItem, h, h2, Res.bind_ok, dItem, tkey_mk, dget_dP, h3]
    rfl
  unfold eSubA eSubP byD
  rw [h]
  simp only [D.isCell, D.isDik, D.isDic]
  exact this
theorem eGetA_dP {f g : ESem} {ρ : DL.Env} {γ : List D} {p : Pl} {m : Mn} (h : f ρ γ = .ok (.dic (dP p)) γ) (h2 : g ρ γ = .ok (.nk (mkK m)) γ) : eGetA f g (eC (.int 0)) ρ γ = .ok (.int ((getP p m).getD 0)) γ := by
  have : eGet f g (eC (.int 0)) ρ γ = .ok (.int ((getP p m).getD 0)) γ := by
    simp only [eGet, h, h2, Res.bind_ok, dGetOr, tkey_mk, dget_dP, eC]
    cases getP p m <;> rfl
  unfold eGetA byD
  rw [h]
  simp only [D.isDik]
  exact this
theorem sDput_dP {i : Nat} {fk fv : ESem} {ρ : DL.Env} {γ : List D} {p : Pl} {m : Mn} {c : Int} (h1 : fv ρ γ = .ok (.int c) γ) (h2 : ρ[i]? = some (some (.mine (.dic (dP p))))) (h3 : fk ρ γ = .ok (.nk (mkK m)) γ) (hl : p.length ≤ 1000000) :
    sDput i fk fv ρ γ = .nx (ρ.set i (some (.mine (.dic (dP (putP p m c)))))) γ := by
  simp only [sDput, h1, toOut_ok, h2, h3, tkey_mk]
  rw [if_pos ⟨rfl, by unfold dP; simpa using hl⟩]
  show Out.nx (ρ.set i (some (.mine (.dic (dput (dP p) (mkK m) (.int c)))))) γ = _
  rw [dput_dP]
theorem putP_len (p : Pl) (m : Mn) (c : Int) : (putP p m c).length ≤ p.length + 1 := by
  unfold putP
  split <;> simp
/-! ### added -/
def addS (f : Int) (acc : Pl) (t : Mn × Int) : Pl := putP acc t.1 ((getP acc t.1).getD 0 + f * t.2)
def addP (p q : Pl) (f : Int) : Pl := q.foldl (addS f) p
theorem apart_dDict {p : Pl} (h : apart (dP p) = true) (hl : p.length ≤ 1000000) : dDict [.dic (dP p)] = some (.dic (dP p)) := by
  unfold dDict callOr
  rw [dCopy, if_pos ⟨h, by unfold dP; simpa using hl⟩]
/-- the number is small enough to be multiplied -/
def Small (c : Int) : Prop := c.natAbs < 2 ^ 5000
theorem gMul_small {i j : Int} (hi : Small i) (hj : Small j) : gMulA (.int i) (.int j) = some (.int (i * j)) := gMul_i (cMul_b hi hj (Nat.le_refl _) (Nat.le_refl _))
theorem added_ok {p q : Pl} {f : Int} (hp : apart (dP p) = true) (hq : NdP q) (hlp : p.length ≤ 1000) (hlq : q.length ≤ 1000) (hf : Small f) (hs : ∀ t ∈ q, Small t.2) (γ : List D) : g_added [.dic (dP p), .dic (dP q), .int f] γ = g_checked [.dic (dP (addP p q f))] γ := by
  show bodyR (fb_added [some (.dic (dP p)), some (.dic (dP q)), some (.int f), none, none] γ) = _
  have e1 : sNew 3 (eCall dDict (aCons (eVar 0) aNil)) [some (.dic (dP p)), some (.dic (dP q)), some (.int f), none, none] γ = .nx [some (.dic (dP p)), some (.dic (dP q)), some (.int f), some (.mine (.dic (dP p))), none] γ :=
    sNew_ok (eCall_ok (acons_ok rfl rfl) (apart_dDict hp (by omega)))
  obtain ⟨ρ', e2, hl, y, rfl⟩ := loop_R (S := Pl) (f := fun t : Mn × Int => D.nk (mkK t.1)) (tg := gtN 4) (γ := γ) (body := sDput 3 (eVar 4) (eOp gAddA (eGetA (eLook 3) (eVar 4) (eC (.int 0))) (eOp gMulA (eVar 2) (eSubA (eVar 1) (eVar 4)))))
    (R := fun n t ρ => t.length ≤ 1000 + n ∧ ∃ y, ρ = [some (.dic (dP p)), some (.dic (dP q)), some (.int f), some (.mine (.dic (dP t))), y])
    (step := addS f) 1000 q 0 p [some (.dic (dP p)), some (.dic (dP q)), some (.int f), some (.mine (.dic (dP p))), none] (by omega) ⟨by omega, none, rfl⟩ (fun x hx n t ρ hn hr => by
      obtain ⟨hl, y, rfl⟩ := hr
      have hv : eOp gAddA (eGetA (eLook 3) (eVar 4) (eC (.int 0))) (eOp gMulA (eVar 2) (eSubA (eVar 1) (eVar 4))) [some (.dic (dP p)), some (.dic (dP q)), some (.int f), some (.mine (.dic (dP t))), some (.nk (mkK x.1))] γ = .ok (.int ((getP t x.1).getD 0 + f * x.2)) γ :=
        eOp_ok (eGetA_dP rfl rfl) (eOp_ok rfl (eSubA_dP (p := q) rfl rfl (getP_mem hq hx)) (gMul_small hf (hs x hx))) rfl
      refine ⟨[some (.dic (dP p)), some (.dic (dP q)), some (.int f), some (.mine (.dic (dP t))), some (.nk (mkK x.1))], _, rfl, sDput_dP (p := t) hv rfl rfl (by omega), ?_, some (.nk (mkK x.1)), rfl⟩
      have := putP_len t x.1 ((getP t x.1).getD 0 + f * x.2)
      unfold addS
      omega)
  have e3 : sFor (lAny (eVar 1)) (gtN 4) (sDput 3 (eVar 4) (eOp gAddA (eGetA (eLook 3) (eVar 4) (eC (.int 0))) (eOp gMulA (eVar 2) (eSubA (eVar 1) (eVar 4))))) [some (.dic (dP p)), some (.dic (dP q)), some (.int f), some (.mine (.dic (dP p))), none] γ = _ := sFor_ok (lAny_dP rfl) e2
  rw [fb_added, sSeq_ok e1, sSeq_ok e3]
  show bodyR (sRet (eFn 1 g_checked (aCons (eVar 3) aNil)) [some (.dic (dP p)), some (.dic (dP q)), some (.int f), some (.dic (dP (addP p q f))), y] γ) = _
  have e4 : eFn 1 g_checked (aCons (eVar 3) aNil) [some (.dic (dP p)), some (.dic (dP q)), some (.int f), some (.dic (dP (addP p q f))), y] γ = g_checked [.dic (dP (addP p q f))] γ := rfl
  unfold sRet
  rw [e4]
  cases g_checked [.dic (dP (addP p q f))] γ <;> rfl
/-! ### product -/
def mulT (s : Mn × Int) (acc : Pl) (t : Mn × Int) : Pl := putP acc (jn s.1 t.1) ((getP acc (jn s.1 t.1)).getD 0 + s.2 * t.2)
def mulS (q : Pl) (acc : Pl) (s : Mn × Int) : Pl := q.foldl (mulT s) acc
def mulP (p q : Pl) : Pl := p.foldl (mulS q) []
theorem mulS_len (s : Mn × Int) : ∀ (q acc : Pl), (mulS q acc s).length ≤ acc.length + q.length
  | [], acc => by simp [mulS]
  | t :: q, acc => by
    have h1 := mulS_len s q (mulT s acc t)
    have h2 := putP_len acc (jn s.1 t.1) ((getP acc (jn s.1 t.1)).getD 0 + s.2 * t.2)
    have : mulS (t :: q) acc s = mulS q (mulT s acc t) s := rfl
    rw [this, List.length_cons]
    unfold mulT at h1
    unfold mulT
    omega
/-- a polynomial as it may be multiplied -/
structure Fine (p : Pl) : Prop where
  nd : NdP p
  len : p.length ≤ 300
  sm : ∀ t ∈ p, Small t.2
  mn : ∀ t ∈ p, NdA t.1 ∧ t.1.length ≤ 1000
theorem product_ok {p q : Pl} (hp : Fine p) (hq : Fine q) (γ : List D) : g_product [.dic (dP p), .dic (dP q)] γ = g_checked [.dic (dP (mulP p q))] γ := by
  show bodyR (fb_product [some (.dic (dP p)), some (.dic (dP q)), none, none, none, none] γ) = _
  have e1 : sNew 2 (eC (.dic [])) [some (.dic (dP p)), some (.dic (dP q)), none, none, none, none] γ = .nx [some (.dic (dP p)), some (.dic (dP q)), some (.mine (.dic (dP []))), none, none, none] γ := rfl
  have hlp := hp.len
  have hlq := hq.len
  obtain ⟨ρ', e2, hl, y, z, u, rfl⟩ := loop_R (S := Pl) (f := fun t : Mn × Int => D.nk (mkK t.1)) (tg := gtN 3) (γ := γ) (body := sFor (lAny (eVar 1)) (gtN 4) (sSeq (sSet 5 (eFn 2 g_joint (aCons (eVar 3) (aCons (eVar 4) aNil)))) (sDput 2 (eVar 5) (eOp gAddA (eGetA (eLook 2) (eVar 5) (eC (.int 0))) (eOp gMulA (eSubA (eVar 0) (eVar 3)) (eSubA (eVar 1) (eVar 4)))))))
    (R := fun n t ρ => t.length ≤ n * 300 ∧ ∃ y z u, ρ = [some (.dic (dP p)), some (.dic (dP q)), some (.mine (.dic (dP t))), y, z, u])
    (step := mulS q) 300 p 0 [] [some (.dic (dP p)), some (.dic (dP q)), some (.mine (.dic (dP []))), none, none, none] (by omega) ⟨by simp, none, none, none, rfl⟩ (fun x hx n t ρ hn hr => by
      obtain ⟨hl, y, z, u, rfl⟩ := hr
      obtain ⟨ρ', e2, hl', z', u', rfl⟩ := loop_R (S := Pl) (f := fun t : Mn × Int => D.nk (mkK t.1)) (tg := gtN 4) (γ := γ) (body := sSeq (sSet 5 (eFn 2 g_joint (aCons (eVar 3) (aCons (eVar 4) aNil)))) (sDput 2 (eVar 5) (eOp gAddA (eGetA (eLook 2) (eVar 5) (eC (.int 0))) (eOp gMulA (eSubA (eVar 0) (eVar 3)) (eSubA (eVar 1) (eVar 4))))))
        (R := fun k t ρ => t.length ≤ n * 300 + k ∧ ∃ z u, ρ = [some (.dic (dP p)), some (.dic (dP q)), some (.mine (.dic (dP t))), some (.nk (mkK x.1)), z, u])
        (step := mulT x) 300 q 0 t [some (.dic (dP p)), some (.dic (dP q)), some (.mine (.dic (dP t))), some (.nk (mkK x.1)), z, u] (by omega) ⟨by omega, z, u, rfl⟩ (fun w hw k t ρ hk hr => by
          obtain ⟨hl, z, u, rfl⟩ := hr
          have hj : sSet 5 (eFn 2 g_joint (aCons (eVar 3) (aCons (eVar 4) aNil))) [some (.dic (dP p)), some (.dic (dP q)), some (.mine (.dic (dP t))), some (.nk (mkK x.1)), some (.nk (mkK w.1)), u] γ = .nx [some (.dic (dP p)), some (.dic (dP q)), some (.mine (.dic (dP t))), some (.nk (mkK x.1)), some (.nk (mkK w.1)), some (.nk (mkK (jn x.1 w.1)))] γ :=
            sSet_ok (fn_ok (ds := [.nk (mkK x.1), .nk (mkK w.1)]) (acons_ok rfl (acons_ok rfl rfl)) rfl (joint_ok (hp.mn x hx).1 (hp.mn x hx).2 (hq.mn w hw).2 γ))
          have hv : eOp gAddA (eGetA (eLook 2) (eVar 5) (eC (.int 0))) (eOp gMulA (eSubA (eVar 0) (eVar 3)) (eSubA (eVar 1) (eVar 4))) [some (.dic (dP p)), some (.dic (dP q)), some (.mine (.dic (dP t))), some (.nk (mkK x.1)), some (.nk (mkK w.1)), some (.nk (mkK (jn x.1 w.1)))] γ = .ok (.int ((getP t (jn x.1 w.1)).getD 0 + x.2 * w.2)) γ :=
            eOp_ok (eGetA_dP rfl rfl) (eOp_ok (eSubA_dP (p := p) rfl rfl (getP_mem hp.nd hx)) (eSubA_dP (p := q) rfl rfl (getP_mem hq.nd hw)) (gMul_small (hp.sm x hx) (hq.sm w hw))) rfl
          refine ⟨[some (.dic (dP p)), some (.dic (dP q)), some (.mine (.dic (dP t))), some (.nk (mkK x.1)), some (.nk (mkK w.1)), u], _, rfl, ?_, ?_, some (.nk (mkK w.1)), some (.nk (mkK (jn x.1 w.1))), rfl⟩
          · rw [sSeq_ok hj]
            exact sDput_dP (p := t) hv rfl rfl (by omega)
          · have := putP_len t (jn x.1 w.1) ((getP t (jn x.1 w.1)).getD 0 + x.2 * w.2)
            unfold mulT
            omega)
      refine ⟨[some (.dic (dP p)), some (.dic (dP q)), some (.mine (.dic (dP t))), some (.nk (mkK x.1)), z, u], _, rfl, sFor_ok (lAny_dP rfl) e2, ?_, _, _, _, rfl⟩
      have := mulS_len x q t
      rw [Nat.succ_mul]
      omega)
  have e3 : sFor (lAny (eVar 0)) (gtN 3) (sFor (lAny (eVar 1)) (gtN 4) (sSeq (sSet 5 (eFn 2 g_joint (aCons (eVar 3) (aCons (eVar 4) aNil)))) (sDput 2 (eVar 5) (eOp gAddA (eGetA (eLook 2) (eVar 5) (eC (.int 0))) (eOp gMulA (eSubA (eVar 0) (eVar 3)) (eSubA (eVar 1) (eVar 4))))))) [some (.dic (dP p)), some (.dic (dP q)), some (.mine (.dic (dP []))), none, none, none] γ = _ := sFor_ok (lAny_dP rfl) e2
  rw [fb_product, sSeq_ok e1, sSeq_ok e3]
  show bodyR (sRet (eFn 1 g_checked (aCons (eVar 2) aNil)) [some (.dic (dP p)), some (.dic (dP q)), some (.dic (dP (mulP p q))), y, z, u] γ) = _
  have e4 : eFn 1 g_checked (aCons (eVar 2) aNil) [some (.dic (dP p)), some (.dic (dP q)), some (.dic (dP (mulP p q))), y, z, u] γ = g_checked [.dic (dP (mulP p q))] γ := rfl
  unfold sRet
  rw [e4]
  cases g_checked [.dic (dP (mulP p q))] γ <;> rfl
end DN

/-! DN3: cleaned, checked -/
namespace DN
open PySem PySem.Spec PyProof.Rows L2 DL
theorem lcS_on {α : Type} {g : α → D} {tg : Tgt} {c : CSem} {f : ESem} {ρ : DL.Env} {γ : List D} {k : α → Bool} {h : α → D} : ∀ (xs : List α) (acc : List D), acc.length + xs.length ≤ 1000000 →
    (∀ x ∈ xs, ∃ ρ2, tg (g x) ρ = some ρ2 ∧ c ρ2 γ = .ok (k x) γ ∧ (k x = true → f ρ2 γ = .ok (h x) γ)) → lcS tg c f ρ (xs.map g) acc γ = .ok (acc ++ (xs.filter k).map h) γ
  | [], acc, _, _ => by simp [lcS]
  | d :: ds, acc, hl, hd => by
    obtain ⟨ρ2, e1, e2, e3⟩ := hd d (by simp)
    have ih := fun acc' (hl' : acc'.length + ds.length ≤ 1000000) => lcS_on (α := α) (g := g) ds acc' hl' fun d' h' => hd d' (by simp [h'])
    simp only [List.length_cons] at hl
    rw [List.map_cons, lcS, e1]
    dsimp only
    rw [e2]
    cases q : k d with
    | true =>
      dsimp only
      rw [e3 q]
      dsimp only
      rw [if_pos (by omega), ih _ (by simp; omega)]
      simp [q]
    | false =>
      dsimp only
      rw [ih _ (by omega)]
      simp [q]
theorem lcS_all {α : Type} {g : α → D} {tg : Tgt} {f : ESem} {ρ : DL.Env} {γ : List D} {h : α → D} {xs : List α} (hl : xs.length ≤ 1000000) (hd : ∀ x ∈ xs, ∃ ρ2, tg (g x) ρ = some ρ2 ∧ f ρ2 γ = .ok (h x) γ) : lcS tg cYesS f ρ (xs.map g) [] γ = .ok (xs.map h) γ := by
  have := lcS_on (g := g) (tg := tg) (c := cYesS) (f := f) (ρ := ρ) (γ := γ) (k := fun _ => true) (h := h) xs [] (by simpa using hl) fun d h' => by
    obtain ⟨ρ2, e1, e2⟩ := hd d h'
    exact ⟨ρ2, e1, rfl, fun _ => e2⟩
  rw [List.filter_eq_self.mpr (fun _ _ => rfl), List.nil_append] at this
  exact this
theorem eTup_ok {fs : LSem} {ρ : DL.Env} {γ γ1 : List D} {ds : List D} (h : fs ρ γ = .ok ds γ1) (hl : ds.length ≤ 1000000) : eTup (aLim 1000000 fs) ρ γ = .ok (.tup ds) γ1 := by
  simp only [eTup, aLim, h, Res.bind_ok, if_pos hl]
theorem cCmp_ok {g : D → D → Option Bool} {fa fb : ESem} {ρ : DL.Env} {γ γ1 γ2 : List D} {x y : D} {k : Bool} (h1 : fa ρ γ = .ok x γ1) (h2 : fb ρ γ1 = .ok y γ2) (h3 : g x y = some k) : cCmp g fa fb ρ γ = .ok k γ2 := by
  simp only [cCmp, h1, h2, h3, Res.bind_ok, ofOpt_some]
theorem eCmp_ok {g : D → D → Option Bool} {fa fb : ESem} {ρ : DL.Env} {γ γ1 γ2 : List D} {x y : D} {k : Bool} (h1 : fa ρ γ = .ok x γ1) (h2 : fb ρ γ1 = .ok y γ2) (h3 : g x y = some k) : eCmp g fa fb ρ γ = .ok (.bl k) γ2 := by
  simp only [eCmp, h1, h2, h3, Res.bind_ok]
theorem cVal_ok {f : ESem} {ρ : DL.Env} {γ γ1 : List D} {k : Bool} (h : f ρ γ = .ok (.bl k) γ1) : cVal f ρ γ = .ok k γ1 := by
  simp only [cVal, h, Res.bind_ok]
/-! ### cleaned -/
def nz (t : Mn × Int) : Bool := !(t.2 == 0)
def clP (p : Pl) : Pl := p.filter nz
theorem clP_nd {p : Pl} (h : NdP p) : NdP (clP p) := (List.filter_sublist.map _).nodup h
theorem pairsD_dP : ∀ p : Pl, pairsD (p.map fun t => D.tup [.nk (mkK t.1), .int t.2]) = some (dP p)
  | [] => rfl
  | t :: p => by
    rw [List.map_cons, pairsD, tkey_mk, pairsD_dP p]
    rfl
theorem putP_new {p : Pl} {m : Mn} {c : Int} (h : m ∉ p.map (·.1)) : putP p m c = p ++ [(m, c)] := by
  unfold putP
  rw [if_neg]
  intro z
  unfold hasP at z
  rw [List.any_eq_true] at z
  obtain ⟨t, ht, e⟩ := z
  rw [decide_eq_true_eq] at e
  exact h (by rw [← e]; exact List.mem_map_of_mem ht)
theorem fold_put : ∀ (q p : Pl), NdP (p ++ q) → (dP q).foldl (fun acc t => dput acc t.1 t.2) (dP p) = dP (p ++ q)
  | [], p, _ => by simp [dP]
  | t :: q, p, h => by
    have e : dP (t :: q) = (mkK t.1, V.int t.2) :: dP q := rfl
    rw [e, List.foldl_cons]
    dsimp only
    rw [dput_dP, putP_new (c := t.2)]
    · have := fold_put q (p ++ [t]) (by unfold NdP at h ⊢; simpa using h)
      rw [this]
      simp
    · intro z
      unfold NdP at h
      rw [List.map_append, List.nodup_append] at h
      exact h.2.2 t.1 z t.1 (by simp) rfl
theorem dDict_pairs {p : Pl} (h : NdP p) (hl : p.length ≤ 1000000) : dDict [.lst (p.map fun t => D.tup [.nk (mkK t.1), .int t.2])] = some (.dic (dP p)) := by
  have e : dDictP [.lst (p.map fun t => D.tup [.nk (mkK t.1), .int t.2])] = some (.dic (dP p)) := by
    rw [dDictP, pairsD_dP]
    dsimp only
    rw [if_pos (by unfold dP; simpa using hl)]
    have := fold_put p [] (by simpa using h)
    rw [show ([] : List (NestedKey × V)) = dP [] from rfl, this]
    rfl
  unfold dDict callOr
  rw [show dCopy [.lst (p.map fun t => D.tup [.nk (mkK t.1), .int t.2])] = none from rfl]
  dsimp only
  rw [e]
theorem cleaned_ok {p : Pl} (h : NdP p) (hl : p.length ≤ 1000000) (γ : List D) : g_cleaned [.dic (dP p)] γ = .ok (.dic (dP (clP p))) γ := by
  show bodyR (fb_cleaned [some (.dic (dP p)), none] γ) = _
  have e1 : lcS (gtN 1) (cCmp dNeN (eSubA (eVar 0) (eVar 1)) (eC (.int 0))) (eTup (aLim 1000000 (aCons (eVar 1) (aCons (eSubA (eVar 0) (eVar 1)) aNil)))) [some (.dic (dP p)), none] (p.map fun t => D.nk (mkK t.1)) [] γ = .ok ((clP p).map fun t => D.tup [.nk (mkK t.1), .int t.2]) γ := by
    have := lcS_on (g := fun t : Mn × Int => D.nk (mkK t.1)) (tg := gtN 1) (c := cCmp dNeN (eSubA (eVar 0) (eVar 1)) (eC (.int 0))) (f := eTup (aLim 1000000 (aCons (eVar 1) (aCons (eSubA (eVar 0) (eVar 1)) aNil)))) (ρ := [some (.dic (dP p)), none]) (γ := γ) (k := nz) (h := fun t => D.tup [.nk (mkK t.1), .int t.2]) p [] (by simpa using hl) fun t ht => by
      have hs : eSubA (eVar 0) (eVar 1) [some (.dic (dP p)), some (.nk (mkK t.1))] γ = .ok (.int t.2) γ := eSubA_dP (p := p) rfl rfl (getP_mem h ht)
      exact ⟨[some (.dic (dP p)), some (.nk (mkK t.1))], rfl, cCmp_ok hs rfl rfl, fun _ => eTup_ok (acons_ok rfl (acons_ok hs rfl)) (by show 2 ≤ 1000000; decide)⟩
    rw [List.nil_append] at this
    exact this
  rw [fb_cleaned, sRet_ok (eCall_ok (ds := [.lst ((clP p).map fun t => D.tup [.nk (mkK t.1), .int t.2])]) (acons_ok (eLc_ok (lAny_dP rfl) e1) rfl) (dDict_pairs (clP_nd h) (Nat.le_trans (List.length_filter_le _ _) hl)))]
  rfl
/-! ### checked -/
def deg (m : Mn) : Int := (m.map (·.2)).sum
theorem ints_map {α : Type} (f : α → Int) : ∀ xs : List α, D.ints (xs.map fun x => .int (f x)) = some (xs.map f)
  | [] => rfl
  | x :: xs => by rw [List.map_cons, D.ints, ints_map f xs]; rfl
theorem bls_map {α : Type} (f : α → Bool) : ∀ xs : List α, D.bls (xs.map fun x => .bl (f x)) = some (xs.map f)
  | [] => rfl
  | x :: xs => by rw [List.map_cons, D.bls, bls_map f xs]; rfl
theorem dAny_map {α : Type} (f : α → Bool) (xs : List α) : dAny [.lst (xs.map fun x => .bl (f x))] = some (.bl (xs.any f)) := by
  rw [dAny, bls_map, Option.map_some, List.any_map]
  rfl
theorem dSum_map {α : Type} (f : α → Int) (xs : List α) : dSum [.lst (xs.map fun x => .int (f x))] = some (.int (xs.map f).sum) := by
  rw [dSum, ints_map, Option.map_some]
/-- too many terms, or too great a degree -/
def bigA (p : Pl) : Bool := decide (200 < (p.length : Int)) || p.any fun t => decide (16 < deg t.1)
def bigN (p : Pl) : Bool := p.any fun t => decide (1000000000000000000000000000000000000000000000000000000000000 < if t.2 < 0 then -t.2 else t.2)
theorem checked_ok {p : Pl} (h : NdP p) (hl : p.length ≤ 1000000) (hm : ∀ t ∈ p, t.1.length ≤ 1000) (γ : List D) : g_checked [.dic (dP p)] γ = if bigA (clP p) = true then .err 9 γ else if bigN (clP p) = true then .err 9 γ else .ok (.dic (dP (clP p))) γ := by
  show bodyR (fb_checked [some (.dic (dP p)), none, none, none, none, none, none] γ) = _
  have hlc : (clP p).length ≤ 1000000 := Nat.le_trans (List.length_filter_le _ _) hl
  have hmc : ∀ t ∈ clP p, t.1.length ≤ 1000 := fun t ht => hm t (List.mem_filter.mp ht).1
  have hnd := clP_nd h
  have e1 : sSet 1 (eFn 1 g_cleaned (aCons (eVar 0) aNil)) [some (.dic (dP p)), none, none, none, none, none, none] γ = .nx [some (.dic (dP p)), some (.dic (dP (clP p))), none, none, none, none, none] γ := sSet_ok (fn_ok (acons_ok rfl rfl) rfl (cleaned_ok h hl γ))
  obtain ⟨c, hc⟩ : ∃ c, c = clP p := ⟨_, rfl⟩
  rw [← hc] at e1 hlc hmc hnd ⊢
  have e2 : sSet 2 (eLc (lAny (eVar 1)) [3] (gtN 3) cYesS (eCall dSum (aCons (eLc (lAny (eVar 3)) [4, 5] (gtP 4 5) cYesS (eVar 5)) aNil))) [some (.dic (dP p)), some (.dic (dP c)), none, none, none, none, none] γ = .nx [some (.dic (dP p)), some (.dic (dP c)), some (.lst (c.map fun t => .int (deg t.1))), none, none, none, none] γ := by
    refine sSet_ok (eLc_ok (lAny_dP rfl) (lcS_all (h := fun t : Mn × Int => D.int (deg t.1)) hlc fun t ht => ⟨[some (.dic (dP p)), some (.dic (dP c)), none, some (.nk (mkK t.1)), none, none, none], rfl, ?_⟩))
    refine eCall_ok (ds := [.lst (t.1.map fun x => .int x.2)]) (acons_ok (eLc_ok (ds := t.1.map fun x => D.nk (mkP x)) (lAny_nk rfl |>.trans (by unfold ofKeys; rw [List.map_map]; rfl)) (lcS_all (by have := hmc t ht; omega) fun x hx => ⟨[some (.dic (dP p)), some (.dic (dP c)), none, some (.nk (mkK t.1)), some (.int x.1), some (.int x.2), none], rfl, rfl⟩)) rfl) (dSum_map _ _)
  have e3 : cOr (cCmp bGt (eCall dLenA (aCons (eVar 1) aNil)) (eC (.int 200))) (cVal (eCall dAny (aCons (eLc (lAny (eVar 2)) [6] (gtN 6) cYesS (eCmp bGt (eVar 6) (eC (.int 16)))) aNil))) [some (.dic (dP p)), some (.dic (dP c)), some (.lst (c.map fun t => .int (deg t.1))), none, none, none, none] γ = .ok (bigA c) γ := by
    have h1 : cCmp bGt (eCall dLenA (aCons (eVar 1) aNil)) (eC (.int 200)) [some (.dic (dP p)), some (.dic (dP c)), some (.lst (c.map fun t => .int (deg t.1))), none, none, none, none] γ = .ok (decide (200 < (c.length : Int))) γ := by
      refine cCmp_ok (x := .int c.length) (y := .int 200) (eCall_ok (acons_ok rfl rfl) ?_) rfl rfl
      show (if (dP c).length ≤ 1000000 then some (D.int (dP c).length) else none) = _
      unfold dP
      rw [List.length_map, if_pos hlc]
    have h2 : cVal (eCall dAny (aCons (eLc (lAny (eVar 2)) [6] (gtN 6) cYesS (eCmp bGt (eVar 6) (eC (.int 16)))) aNil)) [some (.dic (dP p)), some (.dic (dP c)), some (.lst (c.map fun t => .int (deg t.1))), none, none, none, none] γ = .ok (c.any fun t => decide (16 < deg t.1)) γ :=
      cVal_ok (eCall_ok (acons_ok (eLc_ok (lAny_lst rfl) (lcS_all (h := fun t : Mn × Int => D.bl (decide (16 < deg t.1))) hlc fun t ht => ⟨[some (.dic (dP p)), some (.dic (dP c)), some (.lst (c.map fun t => .int (deg t.1))), none, none, none, some (.int (deg t.1))], rfl, eCmp_ok rfl rfl rfl⟩)) rfl) (dAny_map _ _))
    simp only [cOr, h1, Res.bind_ok, h2, bigA]
    by_cases hd : decide (200 < (c.length : Int)) = true
    · rw [if_pos hd, hd]; rfl
    · rw [if_neg hd, Bool.not_eq_true _ |>.mp hd]; rfl
  have e4 : cVal (eCall dAny (aCons (eLc (lAny (eVar 1)) [3] (gtN 3) cYesS (eCmp bGt (eCall dAbs (aCons (eSubA (eVar 1) (eVar 3)) aNil)) (eC (.int 1000000000000000000000000000000000000000000000000000000000000)))) aNil)) [some (.dic (dP p)), some (.dic (dP c)), some (.lst (c.map fun t => .int (deg t.1))), none, none, none, none] γ = .ok (bigN c) γ :=
    cVal_ok (eCall_ok (acons_ok (eLc_ok (lAny_dP rfl) (lcS_all (h := fun t : Mn × Int => D.bl (decide (1000000000000000000000000000000000000000000000000000000000000 < if t.2 < 0 then -t.2 else t.2))) hlc fun t ht => ⟨[some (.dic (dP p)), some (.dic (dP c)), some (.lst (c.map fun t => .int (deg t.1))), some (.nk (mkK t.1)), none, none, none], rfl, eCmp_ok (eCall_ok (acons_ok (eSubA_dP (p := c) rfl rfl (getP_mem hnd ht)) rfl) rfl) rfl rfl⟩)) rfl) (dAny_map _ _))
  rw [fb_checked, sSeq_ok e1, sSeq_ok e2]
  by_cases hA : bigA c = true
  · rw [if_pos hA]
    have : sIf (cOr (cCmp bGt (eCall dLenA (aCons (eVar 1) aNil)) (eC (.int 200))) (cVal (eCall dAny (aCons (eLc (lAny (eVar 2)) [6] (gtN 6) cYesS (eCmp bGt (eVar 6) (eC (.int 16)))) aNil)))) (sErr 9) sSkip [some (.dic (dP p)), some (.dic (dP c)), some (.lst (c.map fun t => .int (deg t.1))), none, none, none, none] γ = .err 9 [some (.dic (dP p)), some (.dic (dP c)), some (.lst (c.map fun t => .int (deg t.1))), none, none, none, none] γ := by
      rw [sIf_ok e3, if_pos hA]
      rfl
    simp only [sSeq, this]
    rfl
  · rw [if_neg hA]
    have : sIf (cOr (cCmp bGt (eCall dLenA (aCons (eVar 1) aNil)) (eC (.int 200))) (cVal (eCall dAny (aCons (eLc (lAny (eVar 2)) [6] (gtN 6) cYesS (eCmp bGt (eVar 6) (eC (.int 16)))) aNil)))) (sErr 9) sSkip [some (.dic (dP p)), some (.dic (dP c)), some (.lst (c.map fun t => .int (deg t.1))), none, none, none, none] γ = .nx [some (.dic (dP p)), some (.dic (dP c)), some (.lst (c.map fun t => .int (deg t.1))), none, none, none, none] γ := by
      rw [sIf_ok e3, if_neg hA]
      rfl
    rw [sSeq_ok this]
    by_cases hN : bigN c = true
    · rw [if_pos hN]
      simp only [sSeq, sIf_ok e4, if_pos hN]
      rfl
    · rw [if_neg hN]
      simp only [sSeq, sIf_ok e4, if_neg hN]
      rfl
end DN

/-! DLy: words as what they do to a stack of ints; the law's own step and run -/
namespace DL
open PySem PySem.Spec PyProof.Rows L2
inductive Wd where
  | dup | drop | swap | over | rot | nip | tuck | add | sub | mul | neg
  | num (i : Int)
def Wd.d : Wd → D
  | .dup => .str "dup" | .drop => .str "drop" | .swap => .str "swap" | .over => .str "over" | .rot => .str "rot" | .nip => .str "nip" | .tuck => .str "tuck"
  | .add => .str "add" | .sub => .str "sub" | .mul => .str "mul" | .neg => .str "neg" | .num i => .int i
def Wd.ok : Wd → Prop
  | .num i => -9 ≤ i ∧ i ≤ 9
  | _ => True
def Wd.need : Wd → Nat
  | .dup => 1 | .drop => 1 | .neg => 1 | .rot => 3 | .num _ => 0 | _ => 2
def Wd.act : Wd → List Int → List Int
  | .dup, [x] => [x, x] | .drop, [_] => [] | .neg, [x] => [-x]
  | .swap, [y, x] => [x, y] | .over, [y, x] => [y, x, y] | .nip, [_, x] => [x] | .tuck, [y, x] => [x, y, x]
  | .add, [y, x] => [y + x] | .sub, [y, x] => [y - x] | .mul, [y, x] => [y * x]
  | .rot, [z, y, x] => [y, x, z] | .num i, [] => [i] | _, _ => []
def stepW (w : Wd) (st : List Int) : Option (List Int) := if st.length < w.need then none else some (st.take (st.length - w.need) ++ w.act (st.drop (st.length - w.need)))
def I (l : List Int) : List D := l.map D.int
theorem I_app (a b : List Int) : I (a ++ b) = I a ++ I b := List.map_append
theorem I_len (a : List Int) : (I a).length = a.length := List.length_map _
theorem wd_of {d : D} (h : d ∈ words) : ∃ w : Wd, d = w.d ∧ w.ok := by
  simp only [words, List.mem_cons, List.not_mem_nil, or_false] at h
  rcases h with rfl | rfl | rfl | rfl | rfl | rfl | rfl | rfl | rfl | rfl | rfl | rfl | rfl | rfl | rfl | rfl | rfl | rfl | rfl | rfl | rfl | rfl | rfl | rfl | rfl | rfl | rfl | rfl | rfl | rfl
  · exact ⟨.dup, rfl, trivial⟩
  · exact ⟨.drop, rfl, trivial⟩
  · exact ⟨.swap, rfl, trivial⟩
  · exact ⟨.over, rfl, trivial⟩
  · exact ⟨.rot, rfl, trivial⟩
  · exact ⟨.nip, rfl, trivial⟩
  · exact ⟨.tuck, rfl, trivial⟩
  · exact ⟨.add, rfl, trivial⟩
  · exact ⟨.sub, rfl, trivial⟩
  · exact ⟨.mul, rfl, trivial⟩
  · exact ⟨.neg, rfl, trivial⟩
  all_goals exact ⟨.num _, rfl, by decide, by decide⟩
theorem wds_of : ∀ {ds : List D}, (∀ d ∈ ds, d ∈ words) → ∃ ws : List Wd, ds = ws.map Wd.d ∧ ∀ w ∈ ws, w.ok
  | [], _ => ⟨[], rfl, fun w h => by cases h⟩
  | d :: ds, h => by
    obtain ⟨w, rfl, h1⟩ := wd_of (h d (by simp))
    obtain ⟨ws, rfl, h2⟩ := wds_of (ds := ds) fun x hx => h x (by simp [hx])
    exact ⟨w :: ws, rfl, fun v hv => by
      rcases List.mem_cons.mp hv with z | z
      · rw [z]; exact h1
      · exact h2 v z⟩
/-! ### ends of lists -/
theorem split_at {st : List Int} {n : Nat} (h : ¬ st.length < n) : ∃ b t, st = b ++ t ∧ t.length = n ∧ st.take (st.length - n) = b ∧ st.drop (st.length - n) = t := by
  refine ⟨st.take (st.length - n), st.drop (st.length - n), (List.take_append_drop _ _).symm, ?_, rfl, rfl⟩
  rw [List.length_drop]; omega
theorem cut_neg_lo {α : Type} (b t : List α) {k : Nat} (hk : t.length = k) (h0 : 0 < k) : cutL (b ++ t) none (some (-(k : Int))) = b := by
  unfold cutL
  have e : HT.sIx (b ++ t).length (b ++ t).length (some (-(k : Int))) = b.length := by
    show (if (-(k : Int)) < 0 then (-(k : Int) + ((b ++ t).length : Int)).toNat else _) = _
    rw [if_pos (by omega), List.length_append]
    omega
  rw [e, show HT.sIx (b ++ t).length 0 none = 0 from rfl, List.drop_zero, Nat.sub_zero, List.take_left']
  rfl
theorem cut_neg_hi {α : Type} (b t : List α) {k : Nat} (hk : t.length = k) (h0 : 0 < k) : cutL (b ++ t) (some (-(k : Int))) none = t := by
  unfold cutL
  have e : HT.sIx (b ++ t).length 0 (some (-(k : Int))) = b.length := by
    show (if (-(k : Int)) < 0 then (-(k : Int) + ((b ++ t).length : Int)).toNat else _) = _
    rw [if_pos (by omega), List.length_append]
    omega
  rw [e, show HT.sIx (b ++ t).length (b ++ t).length none = (b ++ t).length from rfl, List.drop_left', List.length_append, Nat.add_sub_cancel_left, List.take_length]
  rfl
theorem cut_pos_lo {α : Type} (b t : List α) : cutL (b ++ t) none (some (b.length : Int)) = b := by
  unfold cutL
  rw [HT.sIx_nat, show HT.sIx (b ++ t).length 0 none = 0 from rfl, List.drop_zero, Nat.sub_zero, List.length_append, Nat.min_eq_left (Nat.le_add_right _ _), List.take_left']
  rfl
theorem cut_pos_hi {α : Type} (b t : List α) : cutL (b ++ t) (some (b.length : Int)) none = t := by
  unfold cutL
  rw [HT.sIx_nat, show HT.sIx (b ++ t).length (b ++ t).length none = (b ++ t).length from rfl, List.length_append, Nat.min_eq_left (Nat.le_add_right _ _), List.drop_left' rfl, Nat.add_sub_cancel_left, List.take_length]
theorem at_neg {α : Type} (b : List α) (x : α) (t : List α) {k : Nat} (hk : t.length + 1 = k) : atI (b ++ x :: t) (-(k : Int)) = some x := by
  have e : ixN (b ++ x :: t).length (-(k : Int)) = some b.length := by
    unfold ixN
    rw [if_neg (by omega)]
    have hl : (b ++ x :: t).length = b.length + k := by rw [List.length_append, List.length_cons]; omega
    rw [hl]
    first
      | (rw [if_pos (by omega)]; congr 1; omega)
      | (split <;> (try omega) <;> (congr 1; omega))
  unfold atI
  rw [e]
  simp
/-! ### the law's own step -/
def T0 : SSem := (sIf (cNot (cVal (eCall dIsi (aCons (eVar 0) (aCons (eC (.raw (.ty "str"))) aNil))))) (sRet (eOp gAddA (eVar 1) (eLst (aLim 1000000 (aCons (eVar 0) aNil))))) sSkip)
def nx1 : ESem := (eIf (cCmp dEqN (eVar 0) (eC (.str "rot"))) (eC (.int 3)) (eIf (cCmp dInA (eVar 0) (eTup (aLim 1000000 (aCons (eC (.str "dup")) (aCons (eC (.str "drop")) (aCons (eC (.str "neg")) aNil)))))) (eC (.int 1)) (eC (.int 2))))
def T1 : SSem := (sIf (cCmp bLt (eCall dLenA (aCons (eVar 1) aNil)) nx1) (sRet (eC .non)) sSkip)
def T2 : SSem := (sPar 2 3 (eSl (eVar 1) oNone (oSome (eNeg (eC (.int 1))))) (eSubA (eVar 1) (eNeg (eC (.int 1)))))
def T3 : SSem := (sIf (cCmp dEqN (eVar 0) (eC (.str "dup"))) (sRet (eOp gAddA (eVar 1) (eLst (aLim 1000000 (aCons (eVar 3) aNil))))) sSkip)
def T4 : SSem := (sIf (cCmp dEqN (eVar 0) (eC (.str "drop"))) (sRet (eVar 2)) sSkip)
def T5 : SSem := (sIf (cCmp dEqN (eVar 0) (eC (.str "neg"))) (sRet (eOp gAddA (eVar 2) (eLst (aLim 1000000 (aCons (eNeg (eVar 3)) aNil))))) sSkip)
def T6 : SSem := (sIf (cCmp dEqN (eVar 0) (eC (.str "rot"))) (sRet (eOp gAddA (eOp gAddA (eSl (eVar 1) oNone (oSome (eNeg (eC (.int 3))))) (eSl (eVar 1) (oSome (eNeg (eC (.int 2)))) oNone)) (eLst (aLim 1000000 (aCons (eSubA (eVar 1) (eNeg (eC (.int 3)))) aNil))))) sSkip)
def T7 : SSem := (sPar 2 4 (eSl (eVar 2) oNone (oSome (eNeg (eC (.int 1))))) (eSubA (eVar 2) (eNeg (eC (.int 1)))))
def T8 : SSem := (sIf (cCmp dEqN (eVar 0) (eC (.str "swap"))) (sRet (eOp gAddA (eVar 2) (eLst (aLim 1000000 (aCons (eVar 3) (aCons (eVar 4) aNil)))))) sSkip)
def T9 : SSem := (sIf (cCmp dEqN (eVar 0) (eC (.str "over"))) (sRet (eOp gAddA (eVar 2) (eLst (aLim 1000000 (aCons (eVar 4) (aCons (eVar 3) (aCons (eVar 4) aNil))))))) sSkip)
def T10 : SSem := (sIf (cCmp dEqN (eVar 0) (eC (.str "nip"))) (sRet (eOp gAddA (eVar 2) (eLst (aLim 1000000 (aCons (eVar 3) aNil))))) sSkip)
def T11 : SSem := (sIf (cCmp dEqN (eVar 0) (eC (.str "tuck"))) (sRet (eOp gAddA (eVar 2) (eLst (aLim 1000000 (aCons (eVar 3) (aCons (eVar 4) (aCons (eVar 3) aNil))))))) sSkip)
def T12 : SSem := (sRet (eOp gAddA (eVar 2) (eLst (aLim 1000000 (aCons (eIf (cCmp dEqN (eVar 0) (eC (.str "add"))) (eOp gAddA (eVar 4) (eVar 3)) (eIf (cCmp dEqN (eVar 0) (eC (.str "sub"))) (eOp gSubI (eVar 4) (eVar 3)) (eOp gMulA (eVar 4) (eVar 3)))) aNil)))))
def fbStep : SSem := (sSeq T0 (sSeq T1 (sSeq T2 (sSeq T3 (sSeq T4 (sSeq T5 (sSeq T6 (sSeq T7 (sSeq T8 (sSeq T9 (sSeq T10 (sSeq T11 T12))))))))))))
def gStep : List D → List D → Res D := fun ds γ => bodyR (fbStep (startE 5 ds) γ)
theorem seq_ret {c : CSem} {e : ESem} {g : SSem} {ρ : Env} {γ γ1 γ2 : List D} {d : D} (h : c ρ γ = .ok true γ1) (h2 : e ρ γ1 = .ok d γ2) : sSeq (sIf c (sRet e) sSkip) g ρ γ = .rt d γ2 := by
  rw [sSeq_rt]
  rw [sIf_ok h, if_pos rfl]
  exact sRet_ok h2
theorem sPar_ok {i j : Nat} {f g : ESem} {ρ : Env} {γ γ1 γ2 : List D} {d d' : D} (h : f ρ γ = .ok d γ1) (h2 : g ρ γ1 = .ok d' γ2) : sPar i j f g ρ γ = .nx ((ρ.set i (some d)).set j (some d')) γ2 := by
  simp only [sPar, h, h2, toOut_ok]
theorem lst_ok {fs : Env → List D → Res (List D)} {ρ : Env} {γ γ1 ds : List D} (h : fs ρ γ = .ok ds γ1) (hl : ds.length ≤ 1000000) : eLst (aLim 1000000 fs) ρ γ = .ok (.lst ds) γ1 := by
  simp only [eLst, aLim, h, Res.bind_ok, if_pos hl]
theorem tup_ok {fs : Env → List D → Res (List D)} {ρ : Env} {γ γ1 ds : List D} (h : fs ρ γ = .ok ds γ1) (hl : ds.length ≤ 1000000) : eTup (aLim 1000000 fs) ρ γ = .ok (.tup ds) γ1 := by
  simp only [eTup, aLim, h, Res.bind_ok, if_pos hl]
theorem sl_ok {f : ESem} {l h : OSem} {ρ : Env} {γ γ1 γ2 γ3 : List D} {x d : D} {lo hi : Option Int} (h1 : f ρ γ = .ok x γ1) (h2 : l ρ γ1 = .ok lo γ2) (h3 : h ρ γ2 = .ok hi γ3) (h4 : dSl x lo hi = some d) : eSl f l h ρ γ = .ok d γ3 := by
  simp only [eSl, h1, h2, h3, h4, Res.bind_ok, ofOpt_some]
theorem subA_lst {f k : ESem} {ρ : Env} {γ : List D} {ds : List D} {i : Int} {d : D} (h1 : f ρ γ = .ok (.lst ds) γ) (h2 : k ρ γ = .ok (.int i) γ) (h3 : atI ds i = some d) : eSubA f k ρ γ = .ok d γ := by
  simp only [eSubA, eSubP, byD, h1, D.isCell, D.isDik, D.isDic, Bool.false_eq_true, if_false]
  exact eOp_ok h1 h2 h3
theorem st_key {w : Wd} (hw : ∀ i, w ≠ .num i) (L γ : List D) (x2 x3 x4 : Option D) : T0 [some w.d, some (.lst L), x2, x3, x4] γ = .nx [some w.d, some (.lst L), x2, x3, x4] γ ∧ cCmp bLt (eCall dLenA (aCons (eVar 1) aNil)) nx1 [some w.d, some (.lst L), x2, x3, x4] γ = .ok (decide ((L.length : Int) < (w.need : Int))) γ := by
  cases w with
  | num i => exact absurd rfl (hw i)
  | _ => exact ⟨by kernel_rfl, by kernel_rfl⟩
theorem st_pre {w : Wd} (hw : ∀ i, w ≠ .num i) (L γ : List D) (hl : w.need ≤ L.length) (x2 x3 x4 : Option D) (g : SSem) : sSeq T0 (sSeq T1 g) [some w.d, some (.lst L), x2, x3, x4] γ = g [some w.d, some (.lst L), x2, x3, x4] γ := by
  have key := st_key hw L γ x2 x3 x4
  rw [sSeq_ok key.1, sSeq_ok]
  rw [T1]
  refine if_skip ?_
  rw [key.2, decide_eq_false (by omega)]
theorem st_short {w : Wd} (L γ : List D) (hl : L.length < w.need) (x2 x3 x4 : Option D) (g : SSem) : sSeq T0 (sSeq T1 g) [some w.d, some (.lst L), x2, x3, x4] γ = .rt .non γ := by
  have key := st_key (w := w) (fun i z => by rw [z] at hl; exact absurd hl (Nat.not_lt_zero _)) L γ x2 x3 x4
  rw [sSeq_ok key.1]
  refine seq_ret (γ1 := γ) ?_ rfl
  rw [key.2, decide_eq_true (by omega)]
theorem t2_ok (w : D) (P γ : List D) (x : Int) (x2 x3 x4 : Option D) : T2 [some w, some (.lst (P ++ [.int x])), x2, x3, x4] γ = .nx [some w, some (.lst (P ++ [.int x])), some (.lst P), some (.int x), x4] γ := by
  rw [T2]
  refine sPar_ok (d := .lst P) (d' := .int x) (γ1 := γ) (γ2 := γ) (sl_ok (x := .lst (P ++ [.int x])) (γ1 := γ) (γ2 := γ) (lo := none) (hi := some (-1)) rfl rfl rfl ?_) (subA_lst (ds := P ++ [.int x]) (i := -1) rfl rfl (at_neg P (.int x) [] rfl))
  show some (D.lst (cutL (P ++ [.int x]) none (some (-((1 : Nat) : Int))))) = _
  rw [cut_neg_lo P [D.int x] (k := 1) rfl (by decide)]
theorem t7_ok (w s : D) (P γ : List D) (y : Int) (x3 x4 : Option D) : T7 [some w, some s, some (.lst (P ++ [.int y])), x3, x4] γ = .nx [some w, some s, some (.lst P), x3, some (.int y)] γ := by
  rw [T7]
  refine sPar_ok (d := .lst P) (d' := .int y) (γ1 := γ) (γ2 := γ) (sl_ok (x := .lst (P ++ [.int y])) (γ1 := γ) (γ2 := γ) (lo := none) (hi := some (-1)) rfl rfl rfl ?_) (subA_lst (ds := P ++ [.int y]) (i := -1) rfl rfl (at_neg P (.int y) [] rfl))
  show some (D.lst (cutL (P ++ [.int y]) none (some (-((1 : Nat) : Int))))) = _
  rw [cut_neg_lo P [D.int y] (k := 1) rfl (by decide)]
theorem cat_ok {f g : ESem} {ρ : Env} {γ as bs : List D} (h1 : f ρ γ = .ok (.lst as) γ) (h2 : g ρ γ = .ok (.lst bs) γ) (h : as.length + bs.length ≤ 1000000) : eOp gAddA f g ρ γ = .ok (.lst (as ++ bs)) γ := eOp_ok h1 h2 (cat_ll h)
end DL

/-! DLz: the law's own step is stepW -/
namespace DL
open PySem PySem.Spec PyProof.Rows L2
def big (x : Int) : Prop := x.natAbs < 2 ^ 5000
theorem gMul_big {x y : Int} (hx : big x) (hy : big y) : gMulA (.int x) (.int y) = some (.int (x * y)) := gMul_i (by
  unfold cMul
  rw [decide_eq_true (show x.natAbs < 2 ^ 5000 from hx), decide_eq_true (show y.natAbs < 2 ^ 5000 from hy)]
  rfl)
theorem seq_skip {c : CSem} {f g : SSem} {ρ : List (Option D)} {γ : List D} {o : Out} (h : c ρ γ = .ok false γ) (h2 : g ρ γ = o) : sSeq (sIf c f sSkip) g ρ γ = o := by
  rw [sSeq_ok (if_skip h)]
  exact h2
section
variable (b : List Int) (γ : List D) (hb : b.length ≤ 1000)
include hb
theorem step_dup (x : Int) : fbStep [some Wd.dup.d, some (.lst (I b ++ [.int x])), none, none, none] γ = .rt (.lst (I b ++ [.int x, .int x])) γ := by
  rw [fbStep, st_pre (fun i z => by cases z) _ _ (by simp [Wd.need]), sSeq_ok (t2_ok _ _ _ _ _ _ _), T3]
  refine seq_ret (γ1 := γ) (by kernel_rfl) ?_
  have := cat_ok (f := eVar 1) (g := eLst (aLim 1000000 (aCons (eVar 3) aNil))) (ρ := [some Wd.dup.d, some (.lst (I b ++ [.int x])), some (.lst (I b)), some (.int x), none]) (γ := γ) (as := I b ++ [.int x]) (bs := [.int x]) rfl rfl (by simp [I_len]; omega)
  rw [List.append_assoc] at this
  exact this
theorem step_drop (x : Int) : fbStep [some Wd.drop.d, some (.lst (I b ++ [.int x])), none, none, none] γ = .rt (.lst (I b)) γ := by
  rw [fbStep, st_pre (fun i z => by cases z) _ _ (by simp [Wd.need]), sSeq_ok (t2_ok _ _ _ _ _ _ _), T3, T4]
  refine seq_skip (by kernel_rfl) ?_
  exact seq_ret (γ1 := γ) (by kernel_rfl) rfl
theorem step_neg (x : Int) : fbStep [some Wd.neg.d, some (.lst (I b ++ [.int x])), none, none, none] γ = .rt (.lst (I b ++ [.int (-x)])) γ := by
  rw [fbStep, st_pre (fun i z => by cases z) _ _ (by simp [Wd.need]), sSeq_ok (t2_ok _ _ _ _ _ _ _), T3, T4, T5]
  refine seq_skip (by kernel_rfl) ?_; refine seq_skip (by kernel_rfl) ?_
  exact seq_ret (γ1 := γ) (by kernel_rfl) (cat_ok rfl rfl (by simp [I_len]; omega))
theorem step_rot (z y x : Int) : fbStep [some Wd.rot.d, some (.lst (I b ++ [.int z, .int y, .int x])), none, none, none] γ = .rt (.lst (I b ++ [.int y, .int x, .int z])) γ := by
  rw [fbStep, st_pre (fun i z => by cases z) _ _ (by simp [Wd.need])]
  have e0 : I b ++ [D.int z, .int y, .int x] = (I b ++ [.int z, .int y]) ++ [.int x] := by simp
  rw [e0, sSeq_ok (t2_ok _ _ _ _ _ _ _), T3, T4, T5, T6, ← e0]
  refine seq_skip (by kernel_rfl) ?_; refine seq_skip (by kernel_rfl) ?_; refine seq_skip (by kernel_rfl) ?_
  refine seq_ret (γ1 := γ) (by kernel_rfl) ?_
  have c1 : eSl (eVar 1) oNone (oSome (eNeg (eC (.int 3)))) [some Wd.rot.d, some (.lst (I b ++ [.int z, .int y, .int x])), some (.lst (I b ++ [.int z, .int y])), some (.int x), none] γ = .ok (.lst (I b)) γ := by
    refine sl_ok (x := .lst (I b ++ [.int z, .int y, .int x])) (γ1 := γ) (γ2 := γ) (lo := none) (hi := some (-3)) rfl rfl rfl ?_
    show some (D.lst (cutL (I b ++ [.int z, .int y, .int x]) none (some (-((3 : Nat) : Int))))) = _
    rw [cut_neg_lo (I b) [D.int z, .int y, .int x] (k := 3) rfl (by decide)]
  have c2 : eSl (eVar 1) (oSome (eNeg (eC (.int 2)))) oNone [some Wd.rot.d, some (.lst (I b ++ [.int z, .int y, .int x])), some (.lst (I b ++ [.int z, .int y])), some (.int x), none] γ = .ok (.lst [.int y, .int x]) γ := by
    refine sl_ok (x := .lst (I b ++ [.int z, .int y, .int x])) (γ1 := γ) (γ2 := γ) (lo := some (-2)) (hi := none) rfl rfl rfl ?_
    show some (D.lst (cutL (I b ++ [.int z, .int y, .int x]) (some (-((2 : Nat) : Int))) none)) = _
    have e1 : I b ++ [D.int z, .int y, .int x] = (I b ++ [D.int z]) ++ [.int y, .int x] := by simp
    rw [e1, cut_neg_hi (I b ++ [D.int z]) [D.int y, .int x] (k := 2) rfl (by decide)]
  have c3 : eSubA (eVar 1) (eNeg (eC (.int 3))) [some Wd.rot.d, some (.lst (I b ++ [.int z, .int y, .int x])), some (.lst (I b ++ [.int z, .int y])), some (.int x), none] γ = .ok (.int z) γ := subA_lst (ds := I b ++ [.int z, .int y, .int x]) (i := -3) rfl rfl (at_neg (I b) (.int z) [.int y, .int x] (k := 3) rfl)
  have := cat_ok (cat_ok c1 c2 (by simp [I_len]; omega)) (lst_ok (ds := [.int z]) (acons_ok (fs := aNil) c3 rfl) (by simp)) (by simp [I_len]; omega)
  rw [List.append_assoc] at this
  exact this
theorem pre2 (w : Wd) (h2 : w.need = 2) (y x : Int) (hd : w ≠ .dup ∧ w ≠ .drop ∧ w ≠ .neg ∧ w ≠ .rot) : fbStep [some w.d, some (.lst (I b ++ [.int y, .int x])), none, none, none] γ = sSeq T8 (sSeq T9 (sSeq T10 (sSeq T11 T12))) [some w.d, some (.lst (I b ++ [.int y, .int x])), some (.lst (I b)), some (.int x), some (.int y)] γ := by
  rw [fbStep, st_pre (fun i z => by rw [z] at h2; cases h2) _ _ (by rw [h2]; simp)]
  have e0 : I b ++ [D.int y, .int x] = (I b ++ [.int y]) ++ [.int x] := by simp
  rw [e0, sSeq_ok (t2_ok _ _ _ _ _ _ _), T3, T4, T5, T6]
  have key : ∀ (s : D), (cCmp dEqN (eVar 0) (eC (.str "dup")) [some w.d, some s, some (.lst (I b ++ [.int y])), some (.int x), none] γ = .ok false γ) ∧ (cCmp dEqN (eVar 0) (eC (.str "drop")) [some w.d, some s, some (.lst (I b ++ [.int y])), some (.int x), none] γ = .ok false γ) ∧ (cCmp dEqN (eVar 0) (eC (.str "neg")) [some w.d, some s, some (.lst (I b ++ [.int y])), some (.int x), none] γ = .ok false γ) ∧ (cCmp dEqN (eVar 0) (eC (.str "rot")) [some w.d, some s, some (.lst (I b ++ [.int y])), some (.int x), none] γ = .ok false γ) := fun s => by
    cases w <;> first | exact absurd rfl hd.1 | exact absurd rfl hd.2.1 | exact absurd rfl hd.2.2.1 | exact absurd rfl hd.2.2.2 | exact ⟨by kernel_rfl, by kernel_rfl, by kernel_rfl, by kernel_rfl⟩ | cases h2
  obtain ⟨k1, k2, k3, k4⟩ := key (.lst (I b ++ [.int y] ++ [.int x]))
  rw [sSeq_ok (if_skip k1), sSeq_ok (if_skip k2), sSeq_ok (if_skip k3), sSeq_ok (if_skip k4), sSeq_ok (t7_ok _ _ _ _ _ _ _)]
theorem step_two (w : Wd) (h2 : w.need = 2) (y x : Int) (hd : w ≠ .dup ∧ w ≠ .drop ∧ w ≠ .neg ∧ w ≠ .rot) (hx : big x) (hy : big y) : fbStep [some w.d, some (.lst (I b ++ [.int y, .int x])), none, none, none] γ = .rt (.lst (I b ++ I (w.act [y, x]))) γ := by
  rw [pre2 b γ hb w h2 y x hd, T8, T9, T10, T11, T12]
  cases w with
  | swap => exact seq_ret (γ1 := γ) (by kernel_rfl) (cat_ok (bs := [.int x, .int y]) rfl rfl (by simp [I_len]; omega))
  | over => refine seq_skip (by kernel_rfl) ?_; exact seq_ret (γ1 := γ) (by kernel_rfl) (cat_ok (bs := [.int y, .int x, .int y]) rfl rfl (by simp [I_len]; omega))
  | nip => refine seq_skip (by kernel_rfl) ?_; refine seq_skip (by kernel_rfl) ?_; exact seq_ret (γ1 := γ) (by kernel_rfl) (cat_ok (bs := [.int x]) rfl rfl (by simp [I_len]; omega))
  | tuck => refine seq_skip (by kernel_rfl) ?_; refine seq_skip (by kernel_rfl) ?_; refine seq_skip (by kernel_rfl) ?_; exact seq_ret (γ1 := γ) (by kernel_rfl) (cat_ok (bs := [.int x, .int y, .int x]) rfl rfl (by simp [I_len]; omega))
  | add => refine seq_skip (by kernel_rfl) ?_; refine seq_skip (by kernel_rfl) ?_; refine seq_skip (by kernel_rfl) ?_; refine seq_skip (by kernel_rfl) ?_; exact sRet_ok (cat_ok (bs := [.int (y + x)]) rfl (by kernel_rfl) (by simp [I_len]; omega))
  | sub => refine seq_skip (by kernel_rfl) ?_; refine seq_skip (by kernel_rfl) ?_; refine seq_skip (by kernel_rfl) ?_; refine seq_skip (by kernel_rfl) ?_; exact sRet_ok (cat_ok (bs := [.int (y - x)]) rfl (by kernel_rfl) (by simp [I_len]; omega))
  | mul =>
    refine seq_skip (by kernel_rfl) ?_; refine seq_skip (by kernel_rfl) ?_; refine seq_skip (by kernel_rfl) ?_; refine seq_skip (by kernel_rfl) ?_
    refine sRet_ok (cat_ok (bs := [.int (y * x)]) rfl (lst_ok (acons_ok ?_ rfl) (by simp)) (by simp [I_len]; omega))
    rw [eIf_ok (k := false) (γ1 := γ) (by kernel_rfl), if_neg Bool.false_ne_true, eIf_ok (k := false) (γ1 := γ) (by kernel_rfl), if_neg Bool.false_ne_true]
    exact eOp_ok rfl rfl (gMul_big hy hx)
  | _ => cases h2
end
theorem len2 {t : List Int} (h : t.length = 2) : ∃ y x, t = [y, x] := by
  match t, h with
  | [y, x], _ => exact ⟨y, x, rfl⟩
theorem len3 {t : List Int} (h : t.length = 3) : ∃ z y x, t = [z, y, x] := by
  match t, h with
  | [z, y, x], _ => exact ⟨z, y, x, rfl⟩
/-- the law's own step -/
theorem step_ok (w : Wd) (st : List Int) (γ : List D) (hl : st.length ≤ 1000) (hb : ∀ x ∈ st, big x) : gStep [w.d, .lst (I st)] γ = .ok (match stepW w st with | some st' => .lst (I st') | none => .non) γ := by
  have body : ∀ {d : D}, fbStep [some w.d, some (.lst (I st)), none, none, none] γ = .rt d γ → gStep [w.d, .lst (I st)] γ = .ok d γ := fun {d} h => by
    show bodyR (fbStep [some w.d, some (.lst (I st)), none, none, none] γ) = _
    rw [h]
    rfl
  by_cases hs : st.length < w.need
  · have e : stepW w st = none := by unfold stepW; rw [if_pos hs]
    rw [e]
    refine body ?_
    rw [fbStep]
    exact st_short (I st) γ (by rw [I_len]; exact hs) _ _ _ _
  · obtain ⟨b, t, rfl, ht, h1, h2⟩ := split_at hs
    have e : stepW w (b ++ t) = some (b ++ w.act t) := by unfold stepW; rw [if_neg hs, h1, h2]
    rw [e]
    refine body ?_
    have hbl : b.length ≤ 1000 := by rw [List.length_append] at hl; omega
    simp only [I_app]
    cases w with
    | num i =>
      have : t = [] := List.eq_nil_of_length_eq_zero ht
      subst this
      rw [fbStep, T0]
      refine seq_ret (γ1 := γ) (by kernel_rfl) ?_
      have := cat_ok (f := eVar 1) (g := eLst (aLim 1000000 (aCons (eVar 0) aNil))) (ρ := [some (Wd.num i).d, some (.lst (I b ++ I [])), none, none, none]) (γ := γ) (as := I b ++ I []) (bs := [.int i]) rfl rfl (by simp [I_len, I]; omega)
      have e2 : I b ++ I [] = I b := by simp [I]
      rw [e2] at this ⊢
      exact this
    | dup => obtain ⟨x, rfl⟩ := List.length_eq_one_iff.mp ht; exact step_dup b γ hbl x
    | drop => obtain ⟨x, rfl⟩ := List.length_eq_one_iff.mp ht; exact (step_drop b γ hbl x).trans (by simp [Wd.act, I])
    | neg => obtain ⟨x, rfl⟩ := List.length_eq_one_iff.mp ht; exact step_neg b γ hbl x
    | rot => obtain ⟨z, y, x, rfl⟩ := len3 ht; exact step_rot b γ hbl z y x
    | _ =>
      obtain ⟨y, x, rfl⟩ := len2 ht
      exact step_two b γ hbl _ rfl y x ⟨nofun, nofun, nofun, nofun⟩ (hb x (by simp)) (hb y (by simp))
end DL

/-! DM0: runs, how great their numbers become; the law's own run; drawn stacks -/
namespace DL
open PySem PySem.Spec PyProof.Rows L2
def runW : List Wd → List Int → Option (List Int)
  | [], st => some st
  | w :: ws, st => match stepW w st with
    | some st' => runW ws st'
    | none => none
def bnd (k : Nat) (st : List Int) : Prop := ∀ x ∈ st, x.natAbs < 2 ^ k
def Wd.isMul : Wd → Bool
  | .mul => true
  | _ => false
def nextk (w : Wd) (k : Nat) : Nat := if w.isMul = true then 2 * k else k + 1
def expo : List Wd → Nat → Nat
  | [], k => k
  | w :: ws, k => expo ws (nextk w k)
def mulsW (ws : List Wd) : Nat := (ws.filter Wd.isMul).length
theorem nextk_le (w : Wd) {k : Nat} (h : 1 ≤ k) : k ≤ nextk w k := by
  unfold nextk
  split <;> omega
theorem expo_le : ∀ (ws : List Wd) {k : Nat}, 1 ≤ k → k ≤ expo ws k
  | [], k, _ => Nat.le_refl k
  | w :: ws, k, h => Nat.le_trans (nextk_le w h) (expo_le ws (Nat.le_trans h (nextk_le w h)))
theorem expo_bound : ∀ (ws : List Wd) (k : Nat), 1 ≤ k → expo ws k ≤ (k + ws.length) * 2 ^ mulsW ws
  | [], k, _ => by simp [expo, mulsW]
  | w :: ws, k, h => by
    have ih := expo_bound ws (nextk w k) (Nat.le_trans h (nextk_le w h))
    rw [expo]
    cases q : w.isMul with
    | true =>
      have e : mulsW (w :: ws) = mulsW ws + 1 := by unfold mulsW; rw [List.filter_cons_of_pos q, List.length_cons]
      have e2 : nextk w k = 2 * k := by unfold nextk; rw [q, if_pos rfl]
      rw [e2] at ih ⊢
      rw [e, List.length_cons, Nat.pow_succ]
      refine Nat.le_trans ih ?_
      have : (2 * k + ws.length) ≤ (k + (ws.length + 1)) * 2 := by omega
      calc (2 * k + ws.length) * 2 ^ mulsW ws ≤ ((k + (ws.length + 1)) * 2) * 2 ^ mulsW ws := Nat.mul_le_mul_right _ this
        _ = (k + (ws.length + 1)) * (2 ^ mulsW ws * 2) := by rw [Nat.mul_assoc, Nat.mul_comm 2]
    | false =>
      have e : mulsW (w :: ws) = mulsW ws := by unfold mulsW; rw [List.filter_cons_of_neg (by rw [q]; exact Bool.false_ne_true)]
      have e2 : nextk w k = k + 1 := by unfold nextk; rw [q, if_neg Bool.false_ne_true]
      rw [e2] at ih ⊢
      rw [e, List.length_cons]
      refine Nat.le_trans ih (Nat.le_of_eq ?_)
      congr 1
      omega
theorem bnd_mono {k m : Nat} {st : List Int} (h : k ≤ m) (hb : bnd k st) : bnd m st := fun x hx => Nat.lt_of_lt_of_le (hb x hx) (Nat.pow_le_pow_right (by decide) h)
theorem bnd_app {k : Nat} {a b : List Int} (ha : bnd k a) (hb : bnd k b) : bnd k (a ++ b) := fun x hx => (List.mem_append.mp hx).elim (ha x) (hb x)
theorem act_bnd {w : Wd} {t : List Int} {k : Nat} (hk : 4 ≤ k) (hw : w.ok) (ht : t.length = w.need) (hb : bnd k t) : bnd (nextk w k) (w.act t) ∧ (w.act t).length ≤ t.length + 1 := by
  have two : 2 ^ (k + 1) = 2 ^ k * 2 := Nat.pow_succ 2 k
  have big4 : 16 ≤ 2 ^ k := Nat.le_trans (by decide) (Nat.pow_le_pow_right (by decide) hk : 2 ^ 4 ≤ 2 ^ k)
  have l1 : ∀ {u : List Int}, bnd k u → bnd (k + 1) u := fun h => bnd_mono (Nat.le_succ k) h
  cases w with
  | num i =>
    have : t = [] := List.eq_nil_of_length_eq_zero ht
    subst this
    refine ⟨fun x hx => ?_, by simp [Wd.act]⟩
    have hx : x ∈ [i] := hx
    rw [List.mem_singleton.mp hx]
    have := hw.1
    have := hw.2
    show i.natAbs < 2 ^ (k + 1)
    rw [two]
    omega
  | dup =>
    obtain ⟨x, rfl⟩ := List.length_eq_one_iff.mp ht
    exact ⟨l1 (fun z hz => hb z (by simp [Wd.act] at hz; simp [hz])), by simp [Wd.act]⟩
  | drop =>
    obtain ⟨x, rfl⟩ := List.length_eq_one_iff.mp ht
    exact ⟨l1 (fun z hz => by simp [Wd.act] at hz), by simp [Wd.act]⟩
  | neg =>
    obtain ⟨x, rfl⟩ := List.length_eq_one_iff.mp ht
    refine ⟨l1 (fun z hz => ?_), by simp [Wd.act]⟩
    have hz : z ∈ [-x] := hz
    rw [List.mem_singleton.mp hz, Int.natAbs_neg]
    exact hb x (by simp)
  | rot =>
    obtain ⟨z, y, x, rfl⟩ := len3 ht
    exact ⟨l1 (fun u hu => hb u (by simp [Wd.act] at hu; rcases hu with h | h | h <;> simp [h])), by simp [Wd.act]⟩
  | swap =>
    obtain ⟨y, x, rfl⟩ := len2 ht
    exact ⟨l1 (fun u hu => hb u (by simp [Wd.act] at hu; rcases hu with h | h <;> simp [h])), by simp [Wd.act]⟩
  | over =>
    obtain ⟨y, x, rfl⟩ := len2 ht
    exact ⟨l1 (fun u hu => hb u (by simp [Wd.act] at hu; rcases hu with h | h | h <;> simp [h])), by simp [Wd.act]⟩
  | nip =>
    obtain ⟨y, x, rfl⟩ := len2 ht
    exact ⟨l1 (fun u hu => hb u (by simp [Wd.act] at hu; simp [hu])), by simp [Wd.act]⟩
  | tuck =>
    obtain ⟨y, x, rfl⟩ := len2 ht
    exact ⟨l1 (fun u hu => hb u (by simp [Wd.act] at hu; rcases hu with h | h | h <;> simp [h])), by simp [Wd.act]⟩
  | add =>
    obtain ⟨y, x, rfl⟩ := len2 ht
    refine ⟨fun z hz => ?_, by simp [Wd.act]⟩
    have hz : z ∈ [y + x] := hz
    rw [List.mem_singleton.mp hz]
    have h1 := hb y (by simp)
    have h2 := hb x (by simp)
    show (y + x).natAbs < 2 ^ (k + 1)
    rw [two]
    omega
  | sub =>
    obtain ⟨y, x, rfl⟩ := len2 ht
    refine ⟨fun z hz => ?_, by simp [Wd.act]⟩
    have hz : z ∈ [y - x] := hz
    rw [List.mem_singleton.mp hz]
    have h1 := hb y (by simp)
    have h2 := hb x (by simp)
    show (y - x).natAbs < 2 ^ (k + 1)
    rw [two]
    omega
  | mul =>
    obtain ⟨y, x, rfl⟩ := len2 ht
    refine ⟨fun z hz => ?_, by simp [Wd.act]⟩
    have hz : z ∈ [y * x] := hz
    rw [List.mem_singleton.mp hz]
    show (y * x).natAbs < 2 ^ (2 * k)
    rw [Int.natAbs_mul, Nat.two_mul, Nat.pow_add]
    exact Nat.mul_lt_mul'' (hb y (by simp)) (hb x (by simp))
theorem step_bnd {w : Wd} {st st' : List Int} {k : Nat} (hk : 4 ≤ k) (hw : w.ok) (hb : bnd k st) (e : stepW w st = some st') : bnd (nextk w k) st' ∧ st'.length ≤ st.length + 1 := by
  unfold stepW at e
  split at e
  · cases e
  · rename_i hs
    cases e
    obtain ⟨b, t, rfl, ht, h1, h2⟩ := split_at hs
    rw [h1, h2]
    obtain ⟨h3, h4⟩ := act_bnd hk hw ht (fun x hx => hb x (by simp [hx]))
    refine ⟨bnd_app (bnd_mono (nextk_le w (by omega)) fun x hx => hb x (by simp [hx])) h3, ?_⟩
    rw [List.length_append, List.length_append]
    omega
theorem bnd_big {k : Nat} {st : List Int} (hk : k ≤ 5000) (hb : bnd k st) : ∀ x ∈ st, big x := bnd_mono hk hb
/-! ### the law's own run -/
def optD : Option (List Int) → D
  | some st => .lst (I st)
  | none => .non
def rB : SSem := (sSet 2 (eIf (cNotN (eVar 2)) (eFn 2 gStep (aCons (eVar 3) (aCons (eVar 2) aNil))) (eC .non)))
def fbLRun : SSem := (sSeq (sSet 2 (eCall dLstA (aCons (eVar 1) aNil)))
  (sSeq (sFor (lAny (eVar 0)) (gtN 3) rB)
  (sRet (eIf (cNotN (eVar 2)) (eCall dTup (aCons (eVar 2) aNil)) (eC .non)))))
def gLRun : List D → List D → Res D := fun ds γ => bodyR (fbLRun (startE 4 ds) γ)
theorem wd_nm (w : Wd) (y : D) : w.d ≠ .mine y := by
  cases w <;> (intro z; cases z)
theorem rB_none (p s : Option D) (w : Wd) (γ : List D) : rB [p, s, some .non, some w.d] γ = .nx [p, s, some .non, some w.d] γ := by kernel_rfl
theorem rB_some (p s : Option D) (w : Wd) (st : List Int) (γ : List D) (hl : st.length ≤ 1000) (hb : ∀ x ∈ st, big x) : rB [p, s, some (.lst (I st)), some w.d] γ = .nx [p, s, some (optD (stepW w st)), some w.d] γ := by
  have h : gStep [w.d, .lst (I st)] γ = .ok (optD (stepW w st)) γ := (step_ok w st γ hl hb).trans (by cases stepW w st <;> rfl)
  rw [rB]
  refine sSet_ok ?_
  rw [eIf_ok (k := true) (γ1 := γ) (by kernel_rfl), if_pos rfl]
  exact fn_ok (ds := [w.d, .lst (I st)]) (acons_ok (var_ok rfl (wd_nm w)) (acons_ok rfl rfl)) rfl h
theorem loop_none (p s : Option D) (γ : List D) : ∀ (ws : List Wd) (x3 : Option D), ∃ y3, loopS (gtN 3) rB (ws.map Wd.d) [p, s, some .non, x3] γ = .nx [p, s, some .non, y3] γ
  | [], x3 => ⟨x3, rfl⟩
  | w :: ws, x3 => by
    obtain ⟨y3, h⟩ := loop_none p s γ ws (some w.d)
    refine ⟨y3, ?_⟩
    have e : rB [p, s, some .non, some w.d] γ = .nx [p, s, some .non, some w.d] γ := rB_none p s w γ
    rw [List.map_cons]
    simp only [loopS, gtN, List.set, e]
    exact h
theorem loop_run (p s : Option D) (γ : List D) : ∀ (ws : List Wd) (st : List Int) (k : Nat) (x3 : Option D), 4 ≤ k → (∀ w ∈ ws, w.ok) → bnd k st → expo ws k ≤ 5000 → st.length + ws.length ≤ 1000 → ∃ y3, loopS (gtN 3) rB (ws.map Wd.d) [p, s, some (.lst (I st)), x3] γ = .nx [p, s, some (optD (runW ws st)), y3] γ
  | [], st, k, x3, _, _, _, _, _ => ⟨x3, rfl⟩
  | w :: ws, st, k, x3, hk, hw, hb, he, hl => by
    rw [expo] at he
    have hk1 : k ≤ nextk w k := nextk_le w (by omega)
    have e5 : k ≤ 5000 := Nat.le_trans hk1 (Nat.le_trans (expo_le ws (by omega)) he)
    have e := rB_some p s w st γ (by rw [List.length_cons] at hl; omega) (bnd_big e5 hb)
    rw [List.map_cons]
    simp only [loopS, gtN, List.set, e, runW]
    cases q : stepW w st with
    | none => exact loop_none p s γ ws (some w.d)
    | some st' =>
      obtain ⟨h1, h2⟩ := step_bnd hk (hw w (by simp)) hb q
      exact loop_run p s γ ws st' (nextk w k) (some w.d) (by omega) (fun v hv => hw v (by simp [hv])) h1 he (by rw [List.length_cons] at hl; omega)
def optT : Option (List Int) → D
  | some st => .tup (I st)
  | none => .non
theorem lrun_ok (ws : List Wd) (st : List Int) (k : Nat) (γ : List D) (hk : 4 ≤ k) (hw : ∀ w ∈ ws, w.ok) (hb : bnd k st) (he : expo ws k ≤ 5000) (hl : st.length + ws.length ≤ 1000) : gLRun [.tup (ws.map Wd.d), .tup (I st)] γ = .ok (optT (runW ws st)) γ := by
  obtain ⟨y3, e⟩ := loop_run (some (.tup (ws.map Wd.d))) (some (.tup (I st))) γ ws st k none hk hw hb he hl
  have e2 : sFor (lAny (eVar 0)) (gtN 3) rB [some (.tup (ws.map Wd.d)), some (.tup (I st)), some (.lst (I st)), none] γ = .nx [some (.tup (ws.map Wd.d)), some (.tup (I st)), some (optD (runW ws st)), y3] γ := e
  show bodyR (fbLRun [some (.tup (ws.map Wd.d)), some (.tup (I st)), none, none] γ) = _
  rw [fbLRun, sSeq_ok (show sSet 2 _ [some (.tup (ws.map Wd.d)), some (.tup (I st)), none, none] γ = .nx [some (.tup (ws.map Wd.d)), some (.tup (I st)), some (.lst (I st)), none] γ from rfl), sSeq_ok e2]
  cases runW ws st with
  | none => rfl
  | some st' => rfl
/-! ### drawn stacks -/
def stB : SSem := (sApp 2 (eIf (cCmp bGt (eFn 2 gRoll (aCons (eVar 0) (aCons (eC (.int 4)) aNil))) (eC (.int 0))) (eOp gSubI (eFn 2 gRoll (aCons (eVar 0) (aCons (eC (.int 19)) aNil))) (eC (.int 9))) (eOp gSubI (eFn 2 gRoll (aCons (eVar 0) (aCons (eC (.int 2001)) aNil))) (eC (.int 1000)))))
def fbStack : SSem := (sSeq (sNew 2 (eLst (aLim 1000000 aNil)))
  (sSeq (sFor (lRng1 (aCons (eVar 1) aNil)) (gtN 3) stB)
  (sRet (eCall dTup (aCons (eLook 2) aNil)))))
def gStack : List D → List D → Res D := fun ds γ => bodyR (fbStack (startE 4 ds) γ)
theorem stack_loop (n : Nat) (m : Int) : ∀ (its : List D) (acc : List Int) (t : Option D) (γ : List D), Cells γ → n < γ.length → acc.length + its.length < 1000 → bnd 10 acc →
    ∃ (acc' : List Int) (t' : Option D) (γ' : List D), loopS (gtN 3) stB its [some (.cell n), some (.int m), some (.mine (.lst (I acc))), t] γ = .nx [some (.cell n), some (.int m), some (.mine (.lst (I acc'))), t'] γ' ∧ Cells γ' ∧ γ'.length = γ.length ∧ acc'.length = acc.length + its.length ∧ bnd 10 acc'
  | [], acc, t, γ, hγ, hn, hz, hb => ⟨acc, t, γ, rfl, hγ, rfl, rfl, hb⟩
  | it :: its, acc, t, γ, hγ, hn, hz, hb => by
    have key : ∃ (x : Int) (γ1 : List D), stB [some (.cell n), some (.int m), some (.mine (.lst (I acc))), some it] γ = .nx [some (.cell n), some (.int m), some (.mine (.lst (I (acc ++ [x])))), some it] γ1 ∧ Cells γ1 ∧ γ1.length = γ.length ∧ x.natAbs < 2 ^ 10 := by
      obtain ⟨r, γ1, e1, a1, a2, a3, a4⟩ := roll_ok hγ hn (m := 4) (by decide) (by decide)
      have hc : cCmp bGt (eFn 2 gRoll (aCons (eVar 0) (aCons (eC (.int 4)) aNil))) (eC (.int 0)) [some (.cell n), some (.int m), some (.mine (.lst (I acc))), some it] γ = .ok (decide ((0 : Int) < r)) γ1 := cCmp_ok (x := .int r) (y := .int 0) (fn_ok (ds := [.cell n, .int 4]) (acons_ok rfl (acons_ok rfl rfl)) rfl e1) rfl rfl
      have hz' : (I acc).length < 1000000 := by rw [I_len]; rw [List.length_cons] at hz; omega
      have fin : ∀ (x : Int) (γ2 : List D), eIf (cCmp bGt (eFn 2 gRoll (aCons (eVar 0) (aCons (eC (.int 4)) aNil))) (eC (.int 0))) (eOp gSubI (eFn 2 gRoll (aCons (eVar 0) (aCons (eC (.int 19)) aNil))) (eC (.int 9))) (eOp gSubI (eFn 2 gRoll (aCons (eVar 0) (aCons (eC (.int 2001)) aNil))) (eC (.int 1000))) [some (.cell n), some (.int m), some (.mine (.lst (I acc))), some it] γ = .ok (.int x) γ2 → stB [some (.cell n), some (.int m), some (.mine (.lst (I acc))), some it] γ = .nx [some (.cell n), some (.int m), some (.mine (.lst (I (acc ++ [x])))), some it] γ2 := fun x γ2 h => by
        rw [stB, sApp_ok (acc := I acc) rfl h hz', I_app]
        rfl
      by_cases hr : (0 : Int) < r
      · obtain ⟨r2, γ2, e2, b1, b2, b3, b4⟩ := roll_ok a3 (n := n) (by rw [a4]; exact hn) (m := 19) (by decide) (by decide)
        refine ⟨r2 - 9, γ2, fin _ _ ?_, b3, b4.trans a4, by omega⟩
        rw [eIf_ok hc, decide_eq_true hr, if_pos rfl]
        exact eOp_ok (fn_ok (ds := [.cell n, .int 19]) (acons_ok rfl (acons_ok rfl rfl)) rfl e2) rfl rfl
      · obtain ⟨r2, γ2, e2, b1, b2, b3, b4⟩ := roll_ok a3 (n := n) (by rw [a4]; exact hn) (m := 2001) (by decide) (by decide)
        refine ⟨r2 - 1000, γ2, fin _ _ ?_, b3, b4.trans a4, by omega⟩
        rw [eIf_ok hc, decide_eq_false hr, if_neg Bool.false_ne_true]
        exact eOp_ok (fn_ok (ds := [.cell n, .int 2001]) (acons_ok rfl (acons_ok rfl rfl)) rfl e2) rfl rfl
    obtain ⟨x, γ1, e1, c1, l1, hx⟩ := key
    obtain ⟨acc', t', γ', e2, h1, h2, h3, h4⟩ := stack_loop n m its (acc ++ [x]) (some it) γ1 c1 (by rw [l1]; exact hn) (by rw [List.length_append, List.length_cons, List.length_nil]; rw [List.length_cons] at hz; omega) (bnd_app hb (fun z hz => by rw [List.mem_singleton.mp hz]; exact hx))
    refine ⟨acc', t', γ', ?_, h1, h2.trans l1, by rw [h3, List.length_append, List.length_cons, List.length_nil, List.length_cons]; omega, h4⟩
    simp only [loopS, gtN, List.set, e1]
    exact e2
theorem stack_ok {γ : List D} (hγ : Cells γ) {n : Nat} (hn : n < γ.length) {m : Int} (h0 : 0 ≤ m) (h1 : m ≤ 100) : ∃ (st : List Int) (γ' : List D), gStack [.cell n, .int m] γ = .ok (.tup (I st)) γ' ∧ (st.length : Int) = m ∧ bnd 10 st ∧ Cells γ' ∧ γ'.length = γ.length := by
  have hl : (rangeD 0 m.toNat).length = m.toNat := by unfold rangeD; simp
  obtain ⟨acc, t', γ2, e2, b1, b2, b3, b4⟩ := stack_loop n m (rangeD 0 m.toNat) [] none γ hγ hn (by rw [hl]; simp; omega) (fun x h => by cases h)
  refine ⟨acc, γ2, ?_, by rw [b3, hl]; simp; omega, b4, b1, b2⟩
  have e3 : sFor (lRng1 (aCons (eVar 1) aNil)) (gtN 3) stB [some (.cell n), some (.int m), some (.mine (.lst [])), none] γ = .nx [some (.cell n), some (.int m), some (.mine (.lst (I acc))), t'] γ2 := by
    have q : aCons (eVar 1) aNil [some (.cell n), some (.int m), some (.mine (.lst [])), none] γ = .ok [.int m] γ := rfl
    simp only [sFor, lRng1, q, Res.bind_ok]
    rw [if_pos (by omega)]
    exact e2
  show bodyR (fbStack [some (.cell n), some (.int m), none, none] γ) = _
  rw [fbStack, sSeq_ok (show sNew 2 _ [some (.cell n), some (.int m), none, none] γ = .nx [some (.cell n), some (.int m), some (.mine (.lst [])), none] γ from rfl), sSeq_ok e3, sRet_ok (show eCall dTup (aCons (eLook 2) aNil) _ γ2 = .ok (.tup (I acc)) γ2 from rfl)]
  rfl
end DL

/-! DM1: the program's own run and trace are runW -/
namespace DL
open PySem PySem.Spec PyProof.Rows L2
def tSHUFFLES : List Str := ["dup", "drop", "swap", "over", "rot", "nip", "tuck"]
def tabNEEDS : List (Str × Int) := [("dup", 1), ("drop", 1), ("swap", 2), ("over", 2), ("rot", 3), ("nip", 2), ("tuck", 2), ("add", 2), ("sub", 2), ("mul", 2), ("neg", 1)]
def fbNeeded : SSem := (sRet (eIf (cVal (eCall dIsi (aCons (eVar 0) (aCons (eC (.raw (.ty "str"))) aNil)))) (eTab tabNEEDS (eVar 0)) (eC (.int 0))))
def gNeeded : List D → List D → Res D := fun ds γ => bodyR (fbNeeded (startE 1 ds) γ)
def fbLaid : SSem := (sSeq (sIf (cCmp dEqN (eVar 0) (eC (.str "dup"))) (sRet (eLst (aLim 1000000 (aCons (eSubA (eVar 1) (eC (.int 0))) (aCons (eSubA (eVar 1) (eC (.int 0))) aNil))))) sSkip)
  (sSeq (sIf (cCmp dEqN (eVar 0) (eC (.str "drop"))) (sRet (eLst (aLim 1000000 aNil))) sSkip)
  (sSeq (sIf (cCmp dEqN (eVar 0) (eC (.str "swap"))) (sRet (eLst (aLim 1000000 (aCons (eSubA (eVar 1) (eC (.int 1))) (aCons (eSubA (eVar 1) (eC (.int 0))) aNil))))) sSkip)
  (sSeq (sIf (cCmp dEqN (eVar 0) (eC (.str "over"))) (sRet (eLst (aLim 1000000 (aCons (eSubA (eVar 1) (eC (.int 0))) (aCons (eSubA (eVar 1) (eC (.int 1))) (aCons (eSubA (eVar 1) (eC (.int 0))) aNil)))))) sSkip)
  (sSeq (sIf (cCmp dEqN (eVar 0) (eC (.str "rot"))) (sRet (eLst (aLim 1000000 (aCons (eSubA (eVar 1) (eC (.int 1))) (aCons (eSubA (eVar 1) (eC (.int 2))) (aCons (eSubA (eVar 1) (eC (.int 0))) aNil)))))) sSkip)
  (sSeq (sIf (cCmp dEqN (eVar 0) (eC (.str "nip"))) (sRet (eLst (aLim 1000000 (aCons (eSubA (eVar 1) (eC (.int 1))) aNil)))) sSkip)
  (sRet (eLst (aLim 1000000 (aCons (eSubA (eVar 1) (eC (.int 1))) (aCons (eSubA (eVar 1) (eC (.int 0))) (aCons (eSubA (eVar 1) (eC (.int 1))) aNil))))))))))))
def gLaid : List D → List D → Res D := fun ds γ => bodyR (fbLaid (startE 2 ds) γ)
def fbWorked : SSem := (sSeq (sIf (cNot (cVal (eCall dIsi (aCons (eVar 0) (aCons (eC (.raw (.ty "str"))) aNil))))) (sRet (eLst (aLim 1000000 (aCons (eVar 0) aNil)))) sSkip)
  (sSeq (sIf (cCmp dInA (eVar 0) (eC (.tup (tSHUFFLES.map D.str)))) (sRet (eFn 2 gLaid (aCons (eVar 0) (aCons (eVar 1) aNil)))) sSkip)
  (sSeq (sIf (cCmp dEqN (eVar 0) (eC (.str "neg"))) (sRet (eLst (aLim 1000000 (aCons (eNeg (eSubA (eVar 1) (eC (.int 0)))) aNil)))) sSkip)
  (sSeq (sTgt (gtP 2 3) (eVar 1))
  (sRet (eLst (aLim 1000000 (aCons (eIf (cCmp dEqN (eVar 0) (eC (.str "add"))) (eOp gAddA (eVar 2) (eVar 3)) (eIf (cCmp dEqN (eVar 0) (eC (.str "sub"))) (eOp gSubI (eVar 2) (eVar 3)) (eOp gMulA (eVar 2) (eVar 3)))) aNil))))))))
def gWorked : List D → List D → Res D := fun ds γ => bodyR (fbWorked (startE 4 ds) γ)
def u1 : SSem := (sSet 5 (eFn 1 gNeeded (aCons (eVar 2) aNil)))
def u2 : SSem := (sIf (cCmp bLt (eCall dLenA (aCons (eVar 4) aNil)) (eVar 5)) (sErr 8) sSkip)
def u3 : SSem := (sSet 4 (eOp gAddA (eSl (eVar 4) oNone (oSome (eOp gSubI (eCall dLenA (aCons (eVar 4) aNil)) (eVar 5)))) (eFn 2 gWorked (aCons (eVar 2) (aCons (eSl (eVar 4) (oSome (eOp gSubI (eCall dLenA (aCons (eVar 4) aNil)) (eVar 5))) oNone) aNil)))))
def u4 : SSem := (sIf (cVal (eCall dAny (aCons (eLc (lAny (eVar 4)) [6] (gtN 6) cYesS (eCmp bGt (eCall dAbs (aCons (eVar 6) aNil)) (eC (.int 1000000000000000000000000000000000000000000000000000000000000)))) aNil))) (sErr 9) sSkip)
def u5 : SSem := (sApp 3 (eCall dTup (aCons (eVar 4) aNil)))
def uB : SSem := (sSeq u1 (sSeq u2 (sSeq u3 (sSeq u4 u5))))
def fbTraceOf : SSem := (sSeq (sParN1 3 4 (eLst (aLim 1000000 aNil)) (eCall dLstA (aCons (eVar 1) aNil)))
  (sSeq (sFor (lAny (eVar 0)) (gtN 2) uB)
  (sRetMine 3)))
def gTraceOf : List D → List D → Res D := fun ds γ => bodyR (fbTraceOf (startE 7 ds) γ)
def fbIsStack : SSem := (sSeq (sIf (cOr (cNot (cVal (eCall dIsi (aCons (eVar 0) (aCons (eC (.raw (.ty "tuple"))) aNil))))) (cCmp bGt (eCall dLenA (aCons (eVar 0) aNil)) (eC (.int 100)))) (sRet (eC (.bl false))) sSkip)
  (sRet (eCall dAll (aCons (eLc (lAny (eVar 0)) [1] (gtN 1) cYesS (eFn 3 gIsWhole (aCons (eVar 1) (aCons (eNeg (eOp gPowI (eC (.int 10)) (eC (.int 30)))) (aCons (eOp gPowI (eC (.int 10)) (eC (.int 30))) aNil))))) aNil))))
def gIsStack : List D → List D → Res D := fun ds γ => bodyR (fbIsStack (startE 2 ds) γ)
def fbNeedStack : SSem := (sIf (cNot (cVal (eFn 1 gIsStack (aCons (eVar 0) aNil)))) (sErr 2) sSkip)
def gNeedStack : List D → List D → Res D := fun ds γ => bodyR (fbNeedStack (startE 1 ds) γ)
def fbRun : SSem := (sSeq (sExpr (eFn 1 gNeedProgram (aCons (eVar 0) aNil)))
  (sSeq (sExpr (eFn 1 gNeedStack (aCons (eVar 1) aNil)))
  (sRet (eSubA (eOp gAddA (eLst (aLim 1000000 (aCons (eVar 1) aNil))) (eFn 2 gTraceOf (aCons (eVar 0) (aCons (eVar 1) aNil)))) (eNeg (eC (.int 1)))))))
def gRun : List D → List D → Res D := fun ds γ => bodyR (fbRun (startE 2 ds) γ)
def fbTrace : SSem := (sSeq (sExpr (eFn 1 gNeedProgram (aCons (eVar 0) aNil)))
  (sSeq (sExpr (eFn 1 gNeedStack (aCons (eVar 1) aNil)))
  (sRet (eCall dTup (aCons (eFn 2 gTraceOf (aCons (eVar 0) (aCons (eVar 1) aNil))) aNil)))))
def gTrace : List D → List D → Res D := fun ds γ => bodyR (fbTrace (startE 2 ds) γ)
theorem needed_ok (w : Wd) (γ : List D) : gNeeded [w.d] γ = .ok (.int (w.need : Int)) γ := by
  cases w <;> kernel_rfl
theorem worked_ok (w : Wd) (t : List Int) (γ : List D) (ht : t.length = w.need) (hb : ∀ x ∈ t, big x) : gWorked [w.d, .lst (I t)] γ = .ok (.lst (I (w.act t))) γ := by
  cases w with
  | num i =>
    have : t = [] := List.eq_nil_of_length_eq_zero ht
    subst this
    kernel_rfl
  | dup => obtain ⟨x, rfl⟩ := List.length_eq_one_iff.mp ht; kernel_rfl
  | drop => obtain ⟨x, rfl⟩ := List.length_eq_one_iff.mp ht; kernel_rfl
  | neg => obtain ⟨x, rfl⟩ := List.length_eq_one_iff.mp ht; kernel_rfl
  | rot => obtain ⟨z, y, x, rfl⟩ := len3 ht; kernel_rfl
  | mul =>
    obtain ⟨y, x, rfl⟩ := len2 ht
    show bodyR (fbWorked [some (.str "mul"), some (.lst [.int y, .int x]), none, none] γ) = _
    rw [fbWorked]
    rw [sSeq_ok (show sIf _ _ _ [some (.str "mul"), some (.lst [.int y, .int x]), none, none] γ = .nx [some (.str "mul"), some (.lst [.int y, .int x]), none, none] γ from by kernel_rfl)]
    rw [sSeq_ok (show sIf _ _ _ [some (.str "mul"), some (.lst [.int y, .int x]), none, none] γ = .nx [some (.str "mul"), some (.lst [.int y, .int x]), none, none] γ from by kernel_rfl)]
    rw [sSeq_ok (show sIf _ _ _ [some (.str "mul"), some (.lst [.int y, .int x]), none, none] γ = .nx [some (.str "mul"), some (.lst [.int y, .int x]), none, none] γ from by kernel_rfl)]
    rw [sSeq_ok (show sTgt _ _ [some (.str "mul"), some (.lst [.int y, .int x]), none, none] γ = .nx [some (.str "mul"), some (.lst [.int y, .int x]), some (.int y), some (.int x)] γ from by kernel_rfl)]
    rw [sRet_ok (lst_ok (ds := [.int (y * x)]) (γ1 := γ) (acons_ok (fs := aNil) (γ1 := γ) ?_ rfl) (by simp))]
    · rfl
    · rw [eIf_ok (k := false) (γ1 := γ) (by kernel_rfl), if_neg Bool.false_ne_true, eIf_ok (k := false) (γ1 := γ) (by kernel_rfl), if_neg Bool.false_ne_true]
      exact eOp_ok rfl rfl (gMul_big (hb y (by simp)) (hb x (by simp)))
  | _ => obtain ⟨y, x, rfl⟩ := len2 ht; kernel_rfl
theorem small_any (st : List Int) (p s w f : Option D) (m one : Option D) (γ : List D) (hb : bnd 199 st) (hl : st.length ≤ 1000) : u4 [p, s, w, f, some (.lst (I st)), m, one] γ = .nx [p, s, w, f, some (.lst (I st)), m, one] γ := by
  have e2 : eLc (lAny (eVar 4)) [6] (gtN 6) cYesS (eCmp bGt (eCall dAbs (aCons (eVar 6) aNil)) (eC (.int 1000000000000000000000000000000000000000000000000000000000000))) [p, s, w, f, some (.lst (I st)), m, one] γ = .ok (.lst ((I st).map fun _ => .bl false)) γ := by
    show Res.bind (lcS (gtN 6) cYesS _ [p, s, w, f, some (.lst (I st)), m, none] (I st) [] γ) _ = _
    rw [lcS_map (h := fun _ => .bl false) (I st) [] (fun d hd => ?_) (by rw [I_len]; simp; omega)]
    · rfl
    · obtain ⟨x, hx, rfl⟩ := List.mem_map.mp hd
      show Res.ok (D.bl (decide ((1000000000000000000000000000000000000000000000000000000000000 : Int) < (if x < 0 then -x else x)))) γ = _
      rw [decide_eq_false]
      have h1 := hb x hx
      have h2 : (2 : Nat) ^ 199 ≤ 1000000000000000000000000000000000000000000000000000000000000 := by decide
      split <;> omega
  rw [u4]
  refine if_skip (cVal_ok ?_)
  have q : aCons (eLc (lAny (eVar 4)) [6] (gtN 6) cYesS (eCmp bGt (eCall dAbs (aCons (eVar 6) aNil)) (eC (.int 1000000000000000000000000000000000000000000000000000000000000)))) aNil [p, s, w, f, some (.lst (I st)), m, one] γ = .ok [.lst ((I st).map fun _ => .bl false)] γ := acons_ok e2 rfl
  simp only [eCall, q, Res.bind_ok, dAny, bls_map (p := fun _ => false), Option.map_some, ofOpt_some]
  congr 2
  simp
theorem len_ok (p s w f m one : Option D) (L γ : List D) : eCall dLenA (aCons (eVar 4) aNil) [p, s, w, f, some (.lst L), m, one] γ = .ok (.int (L.length : Int)) γ := rfl
/-- one word of the program's own -/
theorem uB_ok (w : Wd) (st : List Int) (p s m one : Option D) (acc γ : List D) {k : Nat} (hk : 4 ≤ k) (hk2 : nextk w k ≤ 199) (hw : w.ok) (hb : bnd k st) (hl : st.length ≤ 900) (hz : acc.length < 1000) :
    (stepW w st = none → ∃ ρ, uB [p, s, some w.d, some (.mine (.lst acc)), some (.lst (I st)), m, one] γ = .err 8 ρ γ) ∧ ∀ st', stepW w st = some st' → uB [p, s, some w.d, some (.mine (.lst acc)), some (.lst (I st)), m, one] γ = .nx [p, s, some w.d, some (.mine (.lst (acc ++ [.tup (I st')]))), some (.lst (I st')), some (.int (w.need : Int)), one] γ := by
  have e1 : u1 [p, s, some w.d, some (.mine (.lst acc)), some (.lst (I st)), m, one] γ = .nx [p, s, some w.d, some (.mine (.lst acc)), some (.lst (I st)), some (.int (w.need : Int)), one] γ := by
    rw [u1]
    exact sSet_ok (fn_ok (ds := [w.d]) (acons_ok (var_ok rfl (wd_nm w)) rfl) rfl (needed_ok w γ))
  have hc : cCmp bLt (eCall dLenA (aCons (eVar 4) aNil)) (eVar 5) [p, s, some w.d, some (.mine (.lst acc)), some (.lst (I st)), some (.int (w.need : Int)), one] γ = .ok (decide (((I st).length : Int) < (w.need : Int))) γ := rfl
  rw [I_len] at hc
  constructor
  · intro e
    have hs : st.length < w.need := by
      unfold stepW at e
      split at e
      · assumption
      · cases e
    refine ⟨[p, s, some w.d, some (.mine (.lst acc)), some (.lst (I st)), some (.int (w.need : Int)), one], ?_⟩
    rw [uB, sSeq_ok e1, u2]
    refine seq_err (ρ1 := [p, s, some w.d, some (.mine (.lst acc)), some (.lst (I st)), some (.int (w.need : Int)), one]) ?_
    rw [sIf_ok hc, decide_eq_true (by omega), if_pos rfl]
    rfl
  · intro st' e
    have hs : ¬ st.length < w.need := fun z => by
      unfold stepW at e
      rw [if_pos z] at e
      cases e
    obtain ⟨b1, l1⟩ := step_bnd hk hw hb e
    obtain ⟨b, t, rfl, ht, h1, h2⟩ := split_at hs
    have e' : st' = b ++ w.act t := by
      unfold stepW at e
      rw [if_neg hs, h1, h2] at e
      exact (Option.some.inj e).symm
    have hbig : ∀ x ∈ t, big x := fun x hx => bnd_mono (Nat.le_trans (nextk_le w (by omega)) (Nat.le_trans hk2 (by decide : 199 ≤ 5000))) hb x (by simp [hx])
    have ho : eOp gSubI (eCall dLenA (aCons (eVar 4) aNil)) (eVar 5) [p, s, some w.d, some (.mine (.lst acc)), some (.lst (I (b ++ t))), some (.int (w.need : Int)), one] γ = .ok (.int (b.length : Int)) γ := by
      have q := eOp_ok (g := gSubI) (len_ok p s (some w.d) (some (.mine (.lst acc))) (some (.int (w.need : Int))) one (I (b ++ t)) γ) (show eVar 5 [p, s, some w.d, some (.mine (.lst acc)), some (.lst (I (b ++ t))), some (.int (w.need : Int)), one] γ = .ok (.int (w.need : Int)) γ from rfl) (show gSubI (.int ((I (b ++ t)).length : Int)) (.int (w.need : Int)) = some (.int (((I (b ++ t)).length : Int) - (w.need : Int))) from rfl)
      have z : (((I (b ++ t)).length : Int) - (w.need : Int)) = (b.length : Int) := by rw [I_len, List.length_append]; omega
      rw [z] at q
      exact q
    have os : oSome (eOp gSubI (eCall dLenA (aCons (eVar 4) aNil)) (eVar 5)) [p, s, some w.d, some (.mine (.lst acc)), some (.lst (I (b ++ t))), some (.int (w.need : Int)), one] γ = .ok (some (b.length : Int)) γ := by
      simp only [oSome, ho, Res.bind_ok]
    have c1 : eSl (eVar 4) oNone (oSome (eOp gSubI (eCall dLenA (aCons (eVar 4) aNil)) (eVar 5))) [p, s, some w.d, some (.mine (.lst acc)), some (.lst (I (b ++ t))), some (.int (w.need : Int)), one] γ = .ok (.lst (I b)) γ := by
      refine sl_ok (x := .lst (I (b ++ t))) (γ1 := γ) (γ2 := γ) (lo := none) rfl rfl os ?_
      show some (D.lst (cutL (I (b ++ t)) none (some (b.length : Int)))) = _
      rw [I_app, ← I_len b, cut_pos_lo]
    have c2 : eSl (eVar 4) (oSome (eOp gSubI (eCall dLenA (aCons (eVar 4) aNil)) (eVar 5))) oNone [p, s, some w.d, some (.mine (.lst acc)), some (.lst (I (b ++ t))), some (.int (w.need : Int)), one] γ = .ok (.lst (I t)) γ := by
      refine sl_ok (x := .lst (I (b ++ t))) (γ1 := γ) (γ2 := γ) (hi := none) rfl os rfl ?_
      show some (D.lst (cutL (I (b ++ t)) (some (b.length : Int)) none)) = _
      rw [I_app, ← I_len b, cut_pos_hi]
    have e3 : u3 [p, s, some w.d, some (.mine (.lst acc)), some (.lst (I (b ++ t))), some (.int (w.need : Int)), one] γ = .nx [p, s, some w.d, some (.mine (.lst acc)), some (.lst (I st')), some (.int (w.need : Int)), one] γ := by
      have eI : I st' = I b ++ I (w.act t) := by rw [e', I_app]
      rw [u3, eI]
      refine sSet_ok (cat_ok c1 (fn_ok (n := 2) (ds := [w.d, .lst (I t)]) (acons_ok (var_ok rfl (wd_nm w)) (acons_ok (fs := aNil) c2 rfl)) rfl (worked_ok w t γ ht hbig)) ?_)
      rw [I_len, I_len]
      have := (act_bnd hk hw ht (fun x hx => hb x (by simp [hx]))).2
      rw [List.length_append] at hl
      omega
    have e4 := small_any st' p s (some w.d) (some (.mine (.lst acc))) (some (.int (w.need : Int))) one γ (bnd_mono hk2 b1) (by omega)
    rw [uB, sSeq_ok e1, sSeq_ok, sSeq_ok e3, sSeq_ok e4, u5, sApp_ok (acc := acc) rfl (show eCall dTup (aCons (eVar 4) aNil) [p, s, some w.d, some (.mine (.lst acc)), some (.lst (I st')), some (.int (w.need : Int)), one] γ = .ok (.tup (I st')) γ from rfl) (by omega)]
    · rfl
    · rw [u2]
      refine if_skip ?_
      rw [hc, decide_eq_false (by omega)]
def traceW : List Wd → List Int → Option (List (List Int))
  | [], _ => some []
  | w :: ws, st => match stepW w st with
    | some st' => (traceW ws st').map (st' :: ·)
    | none => none
def rowsD (rs : List (List Int)) : List D := rs.map fun r => .tup (I r)
theorem trace_loop (p s : Option D) (γ : List D) : ∀ (ws : List Wd) (st : List Int) (k : Nat) (acc : List D) (x2 m one : Option D), 4 ≤ k → (∀ w ∈ ws, w.ok) → bnd k st → expo ws k ≤ 199 → st.length + ws.length ≤ 900 → acc.length + ws.length < 1000 →
    (traceW ws st = none → ∃ ρ, loopS (gtN 2) uB (ws.map Wd.d) [p, s, x2, some (.mine (.lst acc)), some (.lst (I st)), m, one] γ = .err 8 ρ γ) ∧
    ∀ rs, traceW ws st = some rs → ∃ y2 L y m', loopS (gtN 2) uB (ws.map Wd.d) [p, s, x2, some (.mine (.lst acc)), some (.lst (I st)), m, one] γ = .nx [p, s, y2, some (.mine (.lst (acc ++ rowsD rs))), L, m', y] γ
  | [], st, k, acc, x2, m, one, _, _, _, _, _, _ => by
    refine ⟨(fun e => by cases e), fun rs e => ?_⟩
    cases e
    exact ⟨x2, _, one, m, by simp [loopS, rowsD]; rfl⟩
  | w :: ws, st, k, acc, x2, m, one, hk, hw, hb, he, hl, hz => by
    rw [expo] at he
    rw [List.length_cons] at hl hz
    have hk1 : k ≤ nextk w k := nextk_le w (by omega)
    have hk2 : nextk w k ≤ 199 := Nat.le_trans (expo_le ws (by omega)) he
    obtain ⟨a1, a2⟩ := uB_ok w st p s m one acc γ hk hk2 (hw w (by simp)) hb (by omega) (by omega)
    rw [List.map_cons]
    cases q : stepW w st with
    | none =>
      obtain ⟨ρ, e⟩ := a1 q
      constructor
      · intro _
        refine ⟨ρ, ?_⟩
        simp only [loopS, gtN, List.set, e]
      · intro rs e2
        simp only [traceW, q] at e2
        cases e2
    | some st' =>
      have e := a2 st' q
      obtain ⟨b1, l1⟩ := step_bnd hk (hw w (by simp)) hb q
      obtain ⟨c1, c2⟩ := trace_loop p s γ ws st' (nextk w k) (acc ++ [.tup (I st')]) (some w.d) (some (.int (w.need : Int))) one (by omega) (fun v hv => hw v (by simp [hv])) b1 he (by omega) (by rw [List.length_append, List.length_cons, List.length_nil]; omega)
      simp only [loopS, gtN, List.set, e, traceW, q]
      constructor
      · intro e2
        cases q2 : traceW ws st' with
        | none => exact c1 q2
        | some rs => rw [q2] at e2; cases e2
      · intro rs e2
        cases q2 : traceW ws st' with
        | none => rw [q2] at e2; cases e2
        | some rs' =>
          rw [q2] at e2
          cases e2
          obtain ⟨y2, L, y, m', h⟩ := c2 rs' q2
          refine ⟨y2, L, y, m', ?_⟩
          rw [h]
          simp [rowsD]
theorem traceOf_ok (ws : List Wd) (st : List Int) (k : Nat) (γ : List D) (hk : 4 ≤ k) (hw : ∀ w ∈ ws, w.ok) (hb : bnd k st) (he : expo ws k ≤ 199) (hl : st.length + ws.length ≤ 900) : gTraceOf [.tup (ws.map Wd.d), .tup (I st)] γ = match traceW ws st with | some rs => .ok (.lst (rowsD rs)) γ | none => .err 8 γ := by
  obtain ⟨a1, a2⟩ := trace_loop (some (.tup (ws.map Wd.d))) (some (.tup (I st))) γ ws st k [] none none none hk hw hb he hl (by simp; omega)
  show bodyR (fbTraceOf [some (.tup (ws.map Wd.d)), some (.tup (I st)), none, none, none, none, none] γ) = _
  rw [fbTraceOf, sSeq_ok (show sParN1 3 4 _ _ [some (.tup (ws.map Wd.d)), some (.tup (I st)), none, none, none, none, none] γ = .nx [some (.tup (ws.map Wd.d)), some (.tup (I st)), none, some (.mine (.lst [])), some (.lst (I st)), none, none] γ from rfl)]
  cases q : traceW ws st with
  | none =>
    obtain ⟨ρ, e⟩ := a1 q
    have e2 : sFor (lAny (eVar 0)) (gtN 2) uB [some (.tup (ws.map Wd.d)), some (.tup (I st)), none, some (.mine (.lst [])), some (.lst (I st)), none, none] γ = .err 8 ρ γ := e
    rw [seq_err e2]
    rfl
  | some rs =>
    obtain ⟨y2, L, y, m', e⟩ := a2 rs q
    have e2 : sFor (lAny (eVar 0)) (gtN 2) uB [some (.tup (ws.map Wd.d)), some (.tup (I st)), none, some (.mine (.lst [])), some (.lst (I st)), none, none] γ = .nx [some (.tup (ws.map Wd.d)), some (.tup (I st)), y2, some (.mine (.lst ([] ++ rowsD rs))), L, m', y] γ := e
    rw [sSeq_ok e2]
    rfl
end DL

/-! DM2: run and trace of the program; equal data -/
namespace DL
open PySem PySem.Spec PyProof.Rows L2
mutual
theorem eqB_self : ∀ (n : Nat) (d : D), D.plain n d = true → D.eqB d d = true
  | _, .non, _ => by simp [D.eqB]
  | _, .bl b, _ => by simp [D.eqB]
  | _, .int i, _ => by simp [D.eqB]
  | _, .str x, _ => by simp [D.eqB]
  | n + 1, .tup xs, p => by rw [D.plain] at p; rw [D.eqB]; exact eqAll_self n xs p
  | n + 1, .lst xs, p => by rw [D.plain] at p; rw [D.eqB]; exact eqAll_self n xs p
  | 0, .tup _, p => by simp [D.plain] at p
  | 0, .lst _, p => by simp [D.plain] at p
  | _, .scr _, p => by simp [D.plain] at p
  | _, .dic _, p => by simp [D.plain] at p
  | _, .dik _ _, p => by simp [D.plain] at p
  | _, .ins _ _, p => by simp [D.plain] at p
  | _, .cell _, p => by simp [D.plain] at p
  | _, .raw _, p => by simp [D.plain] at p
  | _, .mine _, p => by simp [D.plain] at p
  | _, .nk _, p => by simp [D.plain] at p
theorem eqAll_self : ∀ (n : Nat) (ds : List D), D.plains n ds = true → D.eqAll ds ds = true
  | _, [], _ => by simp [D.eqAll]
  | n, d :: ds, p => by
    rw [D.plains, Bool.and_eq_true] at p
    rw [D.eqAll, eqB_self n d p.1, eqAll_self n ds p.2]
    rfl
end
theorem ne_tup {ds : List D} (h : D.plains 59 ds = true) : dNeN (.tup ds) (.tup ds) = some false := by
  have p : D.plain 60 (.tup ds) = true := by rw [D.plain]; exact h
  have e : dEqN (.tup ds) (.tup ds) = some true := by
    show (if (D.plain 60 (.tup ds) && D.plain 60 (.tup ds)) = true then some (D.eqB (.tup ds) (.tup ds)) else none) = _
    rw [p, eqB_self 60 _ p]
    rfl
  rw [dNeN, e]
  rfl
theorem plains_I (n : Nat) (st : List Int) : D.plains n (I st) = true := plains_ints n st
theorem plains_rows (n : Nat) : ∀ rs : List (List Int), D.plains (n + 1) (rowsD rs) = true
  | [] => by simp [rowsD, D.plains]
  | r :: rs => by
    have ih := plains_rows n rs
    show D.plains (n + 1) (.tup (I r) :: rowsD rs) = true
    rw [D.plains, D.plain, plains_I, ih]
    rfl
/-! ### runs and traces -/
theorem trace_none : ∀ (ws : List Wd) (st : List Int), traceW ws st = none ↔ runW ws st = none
  | [], st => by simp [traceW, runW]
  | w :: ws, st => by
    simp only [traceW, runW]
    cases stepW w st with
    | none => simp
    | some st' =>
      simp only [Option.map_eq_none_iff]
      exact trace_none ws st'
theorem trace_some : ∀ (ws : List Wd) (st : List Int) (rs : List (List Int)), traceW ws st = some rs → rs.length = ws.length ∧ runW ws st = some ((st :: rs).getLast (by simp)) ∧ ∀ (i : Nat) (hi : i < rs.length), runW (ws.take (i + 1)) st = some rs[i]
  | [], st, rs, e => by
    cases e
    exact ⟨rfl, rfl, fun i hi => absurd hi (Nat.not_lt_zero i)⟩
  | w :: ws, st, rs, e => by
    simp only [traceW] at e
    cases q : stepW w st with
    | none => rw [q] at e; cases e
    | some st' =>
      rw [q] at e
      simp only at e
      cases q2 : traceW ws st' with
      | none => rw [q2] at e; cases e
      | some rs' =>
        rw [q2] at e
        cases e
        obtain ⟨h1, h2, h3⟩ := trace_some ws st' rs' q2
        refine ⟨by simp [h1], ?_, fun i hi => ?_⟩
        · simp only [runW, q]
          rw [h2]
          simp
        · cases i with
          | zero => simp only [List.take_succ_cons, List.take_zero, runW, q, List.getElem_cons_zero]
          | succ i =>
            rw [List.take_succ_cons]
            simp only [runW, q]
            simpa using h3 i (by simpa using hi)
theorem isWhole_ok (x lo hi : Int) (γ : List D) (h1 : lo ≤ x) (h2 : x ≤ hi) : gIsWhole [.int x, .int lo, .int hi] γ = .ok (.bl true) γ := by
  show bodyR (fbIsWhole [some (.int x), some (.int lo), some (.int hi)] γ) = _
  have e3 : eChain bLe bLe (eVar 1) (eVar 0) (eVar 2) [some (.int x), some (.int lo), some (.int hi)] γ = .ok (.bl true) γ := by
    have a1 : bLe (.int lo) (.int x) = some true := by
      show some (decide (lo ≤ x)) = _
      rw [decide_eq_true h1]
    have a2 : bLe (.int x) (.int hi) = some true := by
      show some (decide (x ≤ hi)) = _
      rw [decide_eq_true h2]
    have v0 : eVar 0 [some (.int x), some (.int lo), some (.int hi)] γ = .ok (.int x) γ := rfl
    have v1 : eVar 1 [some (.int x), some (.int lo), some (.int hi)] γ = .ok (.int lo) γ := rfl
    have v2 : eVar 2 [some (.int x), some (.int lo), some (.int hi)] γ = .ok (.int hi) γ := rfl
    simp only [eChain, v0, v1, Res.bind_ok, a1, ofOpt_some, if_true, v2, a2]
  rw [fbIsWhole, sRet_ok (d := .bl true) (γ1 := γ)]
  · rfl
  · rw [eAnd_t (show eCall dIsi _ [some (.int x), some (.int lo), some (.int hi)] γ = .ok (.bl true) γ from by kernel_rfl), eAnd_t (show eNot _ [some (.int x), some (.int lo), some (.int hi)] γ = .ok (.bl true) γ from by kernel_rfl)]
    exact e3
theorem isStack_ok (st : List Int) (γ : List D) (hl : st.length ≤ 100) (hb : bnd 99 st) : gIsStack [.tup (I st)] γ = .ok (.bl true) γ := by
  show bodyR (fbIsStack [some (.tup (I st)), none] γ) = _
  have hc : cOr (cNot (cVal (eCall dIsi (aCons (eVar 0) (aCons (eC (.raw (.ty "tuple"))) aNil))))) (cCmp bGt (eCall dLenA (aCons (eVar 0) aNil)) (eC (.int 100))) [some (.tup (I st)), none] γ = .ok false γ := by
    have q : cOr (cNot (cVal (eCall dIsi (aCons (eVar 0) (aCons (eC (.raw (.ty "tuple"))) aNil))))) (cCmp bGt (eCall dLenA (aCons (eVar 0) aNil)) (eC (.int 100))) [some (.tup (I st)), none] γ = .ok (decide ((100 : Int) < ((I st).length : Int))) γ := by kernel_rfl
    rw [q, I_len, decide_eq_false (by omega)]
  have e2 : eLc (lAny (eVar 0)) [1] (gtN 1) cYesS (eFn 3 gIsWhole (aCons (eVar 1) (aCons (eNeg (eOp gPowI (eC (.int 10)) (eC (.int 30)))) (aCons (eOp gPowI (eC (.int 10)) (eC (.int 30))) aNil)))) [some (.tup (I st)), none] γ = .ok (.lst ((I st).map fun _ => .bl true)) γ := by
    show Res.bind (lcS (gtN 1) cYesS _ [some (.tup (I st)), none] (I st) [] γ) _ = _
    rw [lcS_map (h := fun _ => .bl true) (I st) [] (fun d hd => ?_) (by rw [I_len]; simp; omega)]
    · rfl
    · obtain ⟨x, hx, rfl⟩ := List.mem_map.mp hd
      have h1 := hb x hx
      have h2 : (2 : Nat) ^ 99 ≤ 10 ^ 30 := by decide
      refine fn_ok (ds := [.int x, .int (-(10 ^ 30)), .int (10 ^ 30)]) (show _ = _ from by kernel_rfl) rfl (isWhole_ok x _ _ γ (by omega) (by omega))
  rw [fbIsStack, sSeq_ok (if_skip hc), sRet_ok (d := .bl true) (γ1 := γ)]
  · rfl
  · have q : aCons (eLc (lAny (eVar 0)) [1] (gtN 1) cYesS (eFn 3 gIsWhole (aCons (eVar 1) (aCons (eNeg (eOp gPowI (eC (.int 10)) (eC (.int 30)))) (aCons (eOp gPowI (eC (.int 10)) (eC (.int 30))) aNil))))) aNil [some (.tup (I st)), none] γ = .ok [.lst ((I st).map fun _ => .bl true)] γ := acons_ok e2 rfl
    simp only [eCall, q, Res.bind_ok, dAll, bls_map (p := fun _ => true), Option.map_some, ofOpt_some]
    congr 2
    simp
theorem needStack_ok (st : List Int) (γ : List D) (hl : st.length ≤ 100) (hb : bnd 99 st) : gNeedStack [.tup (I st)] γ = .ok .non γ := by
  show bodyR (fbNeedStack [some (.tup (I st))] γ) = _
  have q : eFn 1 gIsStack (aCons (eVar 0) aNil) [some (.tup (I st))] γ = .ok (.bl true) γ := fn_ok (ds := [.tup (I st)]) (acons_ok rfl rfl) rfl (isStack_ok st γ hl hb)
  rw [fbNeedStack, if_skip (cNot_ok (k := true) (cVal_ok q))]
  rfl
theorem needStack_err {x : D} {γ : List D} (h : gIsStack [x] γ = .ok (.bl false) γ) (hx : ∀ y, x ≠ .mine y) : gNeedStack [x] γ = .err 2 γ := by
  show bodyR (fbNeedStack [some x] γ) = _
  have q : eFn 1 gIsStack (aCons (eVar 0) aNil) [some x] γ = .ok (.bl false) γ := fn_ok (ds := [x]) (acons_ok (var_ok rfl hx) rfl) rfl h
  rw [fbNeedStack, sIf_ok (cNot_ok (k := false) (cVal_ok q))]
  rfl
section
variable (ws : List Wd) (st : List Int) (k : Nat) (γ : List D) (hk : 4 ≤ k) (hk2 : k ≤ 99) (hw : ∀ w ∈ ws, w.ok) (hd : ∀ d ∈ ws.map Wd.d, d ∈ words) (hb : bnd k st) (he : expo ws k ≤ 199) (hl : st.length ≤ 100) (hl2 : ws.length ≤ 60)
include hk hk2 hw hd hb he hl hl2
theorem run_ok : gRun [.tup (ws.map Wd.d), .tup (I st)] γ = match runW ws st with | some st' => .ok (.tup (I st')) γ | none => .err 8 γ := by
  have t := traceOf_ok ws st k γ hk hw hb he (by omega)
  show bodyR (fbRun [some (.tup (ws.map Wd.d)), some (.tup (I st))] γ) = _
  have n1 : eFn 1 gNeedProgram (aCons (eVar 0) aNil) [some (.tup (ws.map Wd.d)), some (.tup (I st))] γ = .ok .non γ := fn_ok (ds := [.tup (ws.map Wd.d)]) (acons_ok rfl rfl) rfl (needProgram_ok (by simpa using hl2) hd)
  have n2 : eFn 1 gNeedStack (aCons (eVar 1) aNil) [some (.tup (ws.map Wd.d)), some (.tup (I st))] γ = .ok .non γ := fn_ok (ds := [.tup (I st)]) (acons_ok rfl rfl) rfl (needStack_ok st γ hl (bnd_mono hk2 hb))
  rw [fbRun, sSeq_ok (expr_ok n1), sSeq_ok (expr_ok n2)]
  cases q : traceW ws st with
  | none =>
    rw [q] at t
    rw [(trace_none ws st).mp q]
    have e : eOp gAddA (eLst (aLim 1000000 (aCons (eVar 1) aNil))) (eFn 2 gTraceOf (aCons (eVar 0) (aCons (eVar 1) aNil))) [some (.tup (ws.map Wd.d)), some (.tup (I st))] γ = .err 8 γ := by
      have h2 : eFn 2 gTraceOf (aCons (eVar 0) (aCons (eVar 1) aNil)) [some (.tup (ws.map Wd.d)), some (.tup (I st))] γ = .err 8 γ := fn_err (ds := [.tup (ws.map Wd.d), .tup (I st)]) (acons_ok rfl (acons_ok rfl rfl)) rfl t
      have h1 : eLst (aLim 1000000 (aCons (eVar 1) aNil)) [some (.tup (ws.map Wd.d)), some (.tup (I st))] γ = .ok (.lst [.tup (I st)]) γ := rfl
      simp only [eOp, h1, h2, Res.bind_ok, Res.bind_err]
    have e2 : eSubA (eOp gAddA (eLst (aLim 1000000 (aCons (eVar 1) aNil))) (eFn 2 gTraceOf (aCons (eVar 0) (aCons (eVar 1) aNil)))) (eNeg (eC (.int 1))) [some (.tup (ws.map Wd.d)), some (.tup (I st))] γ = .err 8 γ := by
      simp only [eSubA, eSubP, byD, e]
      rw [eOp, e]
      rfl
    simp only [sRet, e2, toOut_err]
    rfl
  | some rs =>
    rw [q] at t
    obtain ⟨h1, h2, h3⟩ := trace_some ws st rs q
    rw [h2]
    have e : eOp gAddA (eLst (aLim 1000000 (aCons (eVar 1) aNil))) (eFn 2 gTraceOf (aCons (eVar 0) (aCons (eVar 1) aNil))) [some (.tup (ws.map Wd.d)), some (.tup (I st))] γ = .ok (.lst ([.tup (I st)] ++ rowsD rs)) γ :=
      cat_ok rfl (fn_ok (ds := [.tup (ws.map Wd.d), .tup (I st)]) (acons_ok rfl (acons_ok rfl rfl)) rfl t) (by simp [rowsD]; omega)
    have e2 : eSubA (eOp gAddA (eLst (aLim 1000000 (aCons (eVar 1) aNil))) (eFn 2 gTraceOf (aCons (eVar 0) (aCons (eVar 1) aNil)))) (eNeg (eC (.int 1))) [some (.tup (ws.map Wd.d)), some (.tup (I st))] γ = .ok (.tup (I ((st :: rs).getLast (by simp)))) γ := by
      refine subA_lst (i := -1) e rfl ?_
      have e3 : [D.tup (I st)] ++ rowsD rs = rowsD ((st :: rs).dropLast) ++ [.tup (I ((st :: rs).getLast (by simp)))] := by
        have := List.dropLast_concat_getLast (l := st :: rs) (by simp)
        show rowsD (st :: rs) = _
        conv => lhs; rw [← this]
        simp [rowsD]
      rw [e3]
      exact at_neg _ _ [] rfl
    rw [sRet_ok e2]
    rfl
theorem trace_ok : gTrace [.tup (ws.map Wd.d), .tup (I st)] γ = match traceW ws st with | some rs => .ok (.tup (rowsD rs)) γ | none => .err 8 γ := by
  have t := traceOf_ok ws st k γ hk hw hb he (by omega)
  show bodyR (fbTrace [some (.tup (ws.map Wd.d)), some (.tup (I st))] γ) = _
  have n1 : eFn 1 gNeedProgram (aCons (eVar 0) aNil) [some (.tup (ws.map Wd.d)), some (.tup (I st))] γ = .ok .non γ := fn_ok (ds := [.tup (ws.map Wd.d)]) (acons_ok rfl rfl) rfl (needProgram_ok (by simpa using hl2) hd)
  have n2 : eFn 1 gNeedStack (aCons (eVar 1) aNil) [some (.tup (ws.map Wd.d)), some (.tup (I st))] γ = .ok .non γ := fn_ok (ds := [.tup (I st)]) (acons_ok rfl rfl) rfl (needStack_ok st γ hl (bnd_mono hk2 hb))
  rw [fbTrace, sSeq_ok (expr_ok n1), sSeq_ok (expr_ok n2)]
  cases q : traceW ws st with
  | none =>
    rw [q] at t
    have h2 : eFn 2 gTraceOf (aCons (eVar 0) (aCons (eVar 1) aNil)) [some (.tup (ws.map Wd.d)), some (.tup (I st))] γ = .err 8 γ := fn_err (ds := [.tup (ws.map Wd.d), .tup (I st)]) (acons_ok rfl (acons_ok rfl rfl)) rfl t
    simp only [sRet, eCall, aCons, h2, Res.bind_err, toOut_err]
    rfl
  | some rs =>
    rw [q] at t
    have h2 : eFn 2 gTraceOf (aCons (eVar 0) (aCons (eVar 1) aNil)) [some (.tup (ws.map Wd.d)), some (.tup (I st))] γ = .ok (.lst (rowsD rs)) γ := fn_ok (ds := [.tup (ws.map Wd.d), .tup (I st)]) (acons_ok rfl (acons_ok rfl rfl)) rfl t
    have h3 : eCall dTup (aCons (eFn 2 gTraceOf (aCons (eVar 0) (aCons (eVar 1) aNil))) aNil) [some (.tup (ws.map Wd.d)), some (.tup (I st))] γ = .ok (.tup (rowsD rs)) γ := by
      have q : aCons (eFn 2 gTraceOf (aCons (eVar 0) (aCons (eVar 1) aNil))) aNil [some (.tup (ws.map Wd.d)), some (.tup (I st))] γ = .ok [.lst (rowsD rs)] γ := acons_ok h2 rfl
      simp only [eCall, q, Res.bind_ok]
      rfl
    rw [sRet_ok h3]
    rfl
end
theorem run_bad {ds γ : List D} {B : D} (hl : ds.length ≤ 60) (hw : ∀ d ∈ ds, d ∈ words) (h : gIsStack [B] γ = .ok (.bl false) γ) (hB : ∀ y, B ≠ .mine y) : gRun [.tup ds, B] γ = .err 2 γ := by
  show bodyR (fbRun [some (.tup ds), some B] γ) = _
  have n1 : eFn 1 gNeedProgram (aCons (eVar 0) aNil) [some (.tup ds), some B] γ = .ok .non γ := fn_ok (ds := [.tup ds]) (acons_ok rfl rfl) rfl (needProgram_ok hl hw)
  have n2 : eFn 1 gNeedStack (aCons (eVar 1) aNil) [some (.tup ds), some B] γ = .err 2 γ := fn_err (ds := [B]) (acons_ok (var_ok rfl hB) rfl) rfl (needStack_err h hB)
  rw [fbRun, sSeq_ok (expr_ok n1), seq_err (expr_err n2)]
  rfl
end DL

/-! DN4: led, behind, work_of, word by word -/
namespace DN
open PySem PySem.Spec PyProof.Rows L2 DL
def pD (p : Pl) : D := .dic (dP p)
def unkP (i : Int) : Pl := [([(i, 1)], 1)]
def conP (i : Int) : Pl := if i = 0 then [] else [([], i)]
theorem unknown_ok (i : Int) (γ : List D) : g_unknown [.int i] γ = .ok (pD (unkP i)) γ := by kernel_rfl
theorem constant_ok (i : Int) (γ : List D) : g_constant [.int i] γ = .ok (pD (conP i)) γ := by
  show bodyR (fb_constant [some (.int i)] γ) = _
  have hc : cCmp dNeN (eVar 0) (eC (.int 0)) [some (.int i)] γ = .ok (!(i == 0)) γ := rfl
  rw [fb_constant, sRet, eIf_ok hc]
  unfold conP
  by_cases h : i = 0
  · subst h
    rfl
  · rw [if_neg h, beq_eq_false_iff_ne.mpr h]
    kernel_rfl
/-- what a word that lays anew leaves -/
def Wd.lay {α : Type} : Wd → List α → Option (List α)
  | .dup, [x] => some [x, x]
  | .drop, [x] => some []
  | .swap, [y, x] => some [x, y]
  | .over, [y, x] => some [y, x, y]
  | .rot, [z, y, x] => some [y, x, z]
  | .nip, [y, x] => some [x]
  | .tuck, [y, x] => some [x, y, x]
  | _, _ => none
theorem led_lay {w : Wd} {t out : List D} (h : Wd.lay w t = some out) (γ : List D) : g_led [w.d, .lst t] γ = .ok (.lst out) γ := by
  unfold Wd.lay at h
  split at h <;> first | (cases h; kernel_rfl) | cases h
/-- the one thing that is left, or an error -/
def oneL (r : Res D) : Res D := match r with
  | .ok d γ => .ok (.lst [d]) γ
  | .err c γ => .err c γ
  | .stuck => .stuck
theorem ret_one {f : ESem} {ρ : DL.Env} {γ : List D} {r : Res D} (h : f ρ γ = r) : bodyR (sRet (eLst (aLim 1000000 (aCons f aNil))) ρ γ) = oneL r := by
  subst h
  unfold sRet eLst aLim aCons
  cases f ρ γ <;> rfl
theorem if_ret_one {c : CSem} {f : ESem} {g : SSem} {ρ : DL.Env} {γ : List D} {r : Res D} (hc : c ρ γ = .ok true γ) (h : f ρ γ = r) : bodyR (sSeq (sIf c (sRet (eLst (aLim 1000000 (aCons f aNil)))) sSkip) g ρ γ) = oneL r := by
  subst h
  unfold sSeq
  rw [sIf_ok hc, if_pos rfl]
  unfold sRet eLst aLim aCons
  cases f ρ γ <;> rfl
theorem led_num (i : Int) (γ : List D) : g_led [(Wd.num i).d, .lst []] γ = .ok (.lst [pD (conP i)]) γ := by
  show bodyR (fb_led [some (.int i), some (.lst [])] γ) = _
  have hc : cNot (cVal (eCall dIsi (aCons (eVar 0) (aCons (eC (.raw (.ty "str"))) aNil)))) [some (.int i), some (.lst [])] γ = .ok true γ := by kernel_rfl
  have hf : eFn 1 g_constant (aCons (eVar 0) aNil) [some (.int i), some (.lst [])] γ = .ok (pD (conP i)) γ := fn_ok (ds := [.int i]) (acons_ok rfl rfl) rfl (constant_ok i γ)
  rw [fb_led]
  exact if_ret_one hc hf
theorem led_neg (x : D) (γ : List D) : g_led [Wd.neg.d, .lst [x]] γ = oneL (g_added [.dic [], x, .int (-1)] γ) := by
  show bodyR (fb_led [some (.str "neg"), some (.lst [x])] γ) = _
  rw [fb_led]
  rw [sSeq_ok (show sIf _ _ _ [some (.str "neg"), some (.lst [x])] γ = .nx [some (.str "neg"), some (.lst [x])] γ from by kernel_rfl)]
  rw [sSeq_ok (show sIf _ _ _ [some (.str "neg"), some (.lst [x])] γ = .nx [some (.str "neg"), some (.lst [x])] γ from by kernel_rfl)]
  exact if_ret_one (by kernel_rfl) rfl
theorem led_mul (y x : D) (γ : List D) : g_led [Wd.mul.d, .lst [y, x]] γ = oneL (g_product [y, x] γ) := by
  show bodyR (fb_led [some (.str "mul"), some (.lst [y, x])] γ) = _
  rw [fb_led]
  rw [sSeq_ok (show sIf _ _ _ [some (.str "mul"), some (.lst [y, x])] γ = .nx [some (.str "mul"), some (.lst [y, x])] γ from by kernel_rfl)]
  rw [sSeq_ok (show sIf _ _ _ [some (.str "mul"), some (.lst [y, x])] γ = .nx [some (.str "mul"), some (.lst [y, x])] γ from by kernel_rfl)]
  rw [sSeq_ok (show sIf _ _ _ [some (.str "mul"), some (.lst [y, x])] γ = .nx [some (.str "mul"), some (.lst [y, x])] γ from by kernel_rfl)]
  exact if_ret_one (by kernel_rfl) rfl
theorem led_add (y x : D) (γ : List D) : g_led [Wd.add.d, .lst [y, x]] γ = oneL (g_added [y, x, .int 1] γ) := by
  show bodyR (fb_led [some (.str "add"), some (.lst [y, x])] γ) = _
  rw [fb_led]
  rw [sSeq_ok (show sIf _ _ _ [some (.str "add"), some (.lst [y, x])] γ = .nx [some (.str "add"), some (.lst [y, x])] γ from by kernel_rfl)]
  rw [sSeq_ok (show sIf _ _ _ [some (.str "add"), some (.lst [y, x])] γ = .nx [some (.str "add"), some (.lst [y, x])] γ from by kernel_rfl)]
  rw [sSeq_ok (show sIf _ _ _ [some (.str "add"), some (.lst [y, x])] γ = .nx [some (.str "add"), some (.lst [y, x])] γ from by kernel_rfl)]
  rw [sSeq_ok (show sIf _ _ _ [some (.str "add"), some (.lst [y, x])] γ = .nx [some (.str "add"), some (.lst [y, x])] γ from by kernel_rfl)]
  exact ret_one (by kernel_rfl)
theorem led_sub (y x : D) (γ : List D) : g_led [Wd.sub.d, .lst [y, x]] γ = oneL (g_added [y, x, .int (-1)] γ) := by
  show bodyR (fb_led [some (.str "sub"), some (.lst [y, x])] γ) = _
  rw [fb_led]
  rw [sSeq_ok (show sIf _ _ _ [some (.str "sub"), some (.lst [y, x])] γ = .nx [some (.str "sub"), some (.lst [y, x])] γ from by kernel_rfl)]
  rw [sSeq_ok (show sIf _ _ _ [some (.str "sub"), some (.lst [y, x])] γ = .nx [some (.str "sub"), some (.lst [y, x])] γ from by kernel_rfl)]
  rw [sSeq_ok (show sIf _ _ _ [some (.str "sub"), some (.lst [y, x])] γ = .nx [some (.str "sub"), some (.lst [y, x])] γ from by kernel_rfl)]
  rw [sSeq_ok (show sIf _ _ _ [some (.str "sub"), some (.lst [y, x])] γ = .nx [some (.str "sub"), some (.lst [y, x])] γ from by kernel_rfl)]
  exact ret_one (by kernel_rfl)
/-! ### behind -/
def ups : Nat → Nat → List D → List D
  | 0, _, rows => rows
  | k + 1, n, rows => ups k (n + 1) (pD (unkP ((n + 1 : Nat) : Int)) :: rows)
theorem ups_len : ∀ (k n : Nat) (rows : List D), (ups k n rows).length = rows.length + k
  | 0, _, _ => rfl
  | k + 1, n, rows => by rw [ups, ups_len k, List.length_cons]; omega
def wC : CSem := cCmp bLt (eCall dLenA (aCons (eVar 4) aNil)) (eVar 2)
def wB : SSem := sSeq (sSet 3 (eOp gAddA (eVar 3) (eC (.int 1)))) (sSet 4 (eOp gAddA (eLst (aLim 1000000 (aCons (eFn 1 g_unknown (aCons (eVar 3) aNil)) aNil))) (eVar 4)))
theorem while_up (s w x y : Option D) (γ : List D) (m : Nat) (hm : m ≤ 3) : ∀ (k n : Nat) (rows : List D) (fuel : Nat), (rows.length + k = m ∨ (k = 0 ∧ m ≤ rows.length)) → k < fuel →
    sWhile wC wB fuel [s, w, some (.int (m : Int)), some (.int (n : Int)), some (.lst rows), x, y] γ = .nx [s, w, some (.int (m : Int)), some (.int ((n + k : Nat) : Int)), some (.lst (ups k n rows)), x, y] γ
  | k, n, rows, 0, _, hf => by omega
  | 0, n, rows, fuel + 1, hk, hf => by
    have hc : wC [s, w, some (.int (m : Int)), some (.int (n : Int)), some (.lst rows), x, y] γ = .ok (decide ((rows.length : Int) < (m : Int))) γ := rfl
    rw [decide_eq_false (by omega)] at hc
    simp only [sWhile, hc, toOut_ok]
    rfl
  | k + 1, n, rows, fuel + 1, hk, hf => by
    have hc : wC [s, w, some (.int (m : Int)), some (.int (n : Int)), some (.lst rows), x, y] γ = .ok (decide ((rows.length : Int) < (m : Int))) γ := rfl
    rw [decide_eq_true (by omega)] at hc
    have hb : wB [s, w, some (.int (m : Int)), some (.int (n : Int)), some (.lst rows), x, y] γ = .nx [s, w, some (.int (m : Int)), some (.int ((n + 1 : Nat) : Int)), some (.lst (pD (unkP ((n + 1 : Nat) : Int)) :: rows)), x, y] γ := by
      have e1 : sSet 3 (eOp gAddA (eVar 3) (eC (.int 1))) [s, w, some (.int (m : Int)), some (.int (n : Int)), some (.lst rows), x, y] γ = .nx [s, w, some (.int (m : Int)), some (.int ((n + 1 : Nat) : Int)), some (.lst rows), x, y] γ := rfl
      rw [wB, sSeq_ok e1]
      exact sSet_ok (cat_ok (as := [pD (unkP ((n + 1 : Nat) : Int))]) (lst_ok (acons_ok (fn_ok (ds := [.int ((n + 1 : Nat) : Int)]) (acons_ok rfl rfl) rfl (unknown_ok _ γ)) rfl) (by show 1 ≤ 1000000; decide)) rfl (by simp; omega))
    have ih := while_up s w x y γ m hm k (n + 1) (pD (unkP ((n + 1 : Nat) : Int)) :: rows) fuel (by simp; omega) (by omega)
    simp only [sWhile, hc, toOut_ok, if_true, hb]
    rw [ih, ups, show n + 1 + k = n + (k + 1) by omega]
theorem wd_need_le (w : Wd) : w.need ≤ 3 := by cases w <;> (show _ ≤ 3; simp [Wd.need])
/-- what a word meets: the need behind it, what stays, what it takes -/
structure Meets (w : Wd) (n : Nat) (rows : List D) (n' : Nat) (b t : List D) : Prop where
  e : n' = n + (w.need - rows.length)
  r : ups (w.need - rows.length) n rows = b ++ t
  t : t.length = w.need
theorem meets_ex (w : Wd) (n : Nat) (rows : List D) : ∃ b t, Meets w n rows (n + (w.need - rows.length)) b t := by
  obtain ⟨u, hu⟩ : ∃ u, u = ups (w.need - rows.length) n rows := ⟨_, rfl⟩
  have hl := ups_len (w.need - rows.length) n rows
  rw [← hu] at hl
  refine ⟨u.take (u.length - w.need), u.drop (u.length - w.need), rfl, ?_, ?_⟩
  · rw [List.take_append_drop, hu]
  · rw [List.length_drop]; omega
theorem behind_go {w : Wd} {n n' : Nat} {rows b t : List D} (M : Meets w n rows n' b t) (hl : rows.length ≤ 900) (γ : List D) : ∃ ρ : DL.Env, ρ[5]? = some (some (.lst b)) ∧ ρ[6]? = some (some (.lst t)) ∧ ρ[1]? = some (some w.d) ∧ ρ[3]? = some (some (.int (n' : Int))) ∧
    g_Work_behind [.ins 0 [.int (n : Int), .lst rows], w.d] γ = bodyR (sRet (eMake 0 (aCons (eVar 3) (aCons (eOp gAddA (eVar 5) (eFn 2 g_led (aCons (eVar 1) (aCons (eVar 6) aNil)))) aNil))) ρ γ) := by
  refine ⟨[some (.ins 0 [.int (n : Int), .lst rows]), some w.d, some (.int (w.need : Int)), some (.int (n' : Int)), some (.lst (b ++ t)), some (.lst b), some (.lst t)], rfl, rfl, rfl, rfl, ?_⟩
  show bodyR (fb_Work_behind [some (.ins 0 [.int (n : Int), .lst rows]), some w.d, none, none, none, none, none] γ) = _
  have e1 : sPar 3 4 (eFld 0 0 (eVar 0)) (eCall dLstA (aCons (eFld 0 1 (eVar 0)) aNil)) [some (.ins 0 [.int (n : Int), .lst rows]), some w.d, none, none, none, none, none] γ = .nx [some (.ins 0 [.int (n : Int), .lst rows]), some w.d, none, some (.int (n : Int)), some (.lst rows), none, none] γ := rfl
  have e2 : sSet 2 (eFn 1 g_needed (aCons (eVar 1) aNil)) [some (.ins 0 [.int (n : Int), .lst rows]), some w.d, none, some (.int (n : Int)), some (.lst rows), none, none] γ = .nx [some (.ins 0 [.int (n : Int), .lst rows]), some w.d, some (.int (w.need : Int)), some (.int (n : Int)), some (.lst rows), none, none] γ :=
    sSet_ok (fn_ok (ds := [w.d]) (acons_ok (var_ok rfl (wd_nm w)) rfl) rfl (show g_needed [w.d] γ = _ from needed_ok w γ))
  have e3 := while_up (some (.ins 0 [.int (n : Int), .lst rows])) (some w.d) none none γ w.need (wd_need_le w) (w.need - rows.length) n rows 64 (by omega) (by have := wd_need_le w; omega)
  rw [M.r, ← M.e, wC, wB] at e3
  have hlen : (b ++ t).length = b.length + w.need := by rw [List.length_append, M.t]
  have ho : oSome (eOp gSubI (eCall dLenA (aCons (eVar 4) aNil)) (eVar 2)) [some (.ins 0 [.int (n : Int), .lst rows]), some w.d, some (.int (w.need : Int)), some (.int (n' : Int)), some (.lst (b ++ t)), none, none] γ = .ok (some (b.length : Int)) γ := by
    have q : eOp gSubI (eCall dLenA (aCons (eVar 4) aNil)) (eVar 2) [some (.ins 0 [.int (n : Int), .lst rows]), some w.d, some (.int (w.need : Int)), some (.int (n' : Int)), some (.lst (b ++ t)), none, none] γ = .ok (.int (((b ++ t).length : Int) - (w.need : Int))) γ := rfl
    rw [show (((b ++ t).length : Int) - (w.need : Int)) = (b.length : Int) by rw [hlen]; omega] at q
    simp only [oSome, q, Res.bind_ok]
  have e4 : sPar 5 6 (eSl (eVar 4) oNone (oSome (eOp gSubI (eCall dLenA (aCons (eVar 4) aNil)) (eVar 2)))) (eSl (eVar 4) (oSome (eOp gSubI (eCall dLenA (aCons (eVar 4) aNil)) (eVar 2))) oNone) [some (.ins 0 [.int (n : Int), .lst rows]), some w.d, some (.int (w.need : Int)), some (.int (n' : Int)), some (.lst (b ++ t)), none, none] γ = .nx [some (.ins 0 [.int (n : Int), .lst rows]), some w.d, some (.int (w.need : Int)), some (.int (n' : Int)), some (.lst (b ++ t)), some (.lst b), some (.lst t)] γ := by
    refine sPar_ok (γ1 := γ) (d := .lst b) (d' := .lst t) ?_ ?_
    · refine sl_ok (x := .lst (b ++ t)) (γ1 := γ) (γ2 := γ) (lo := none) rfl rfl ho ?_
      show some (D.lst (cutL (b ++ t) none (some (b.length : Int)))) = _
      rw [cut_pos_lo]
    · refine sl_ok (x := .lst (b ++ t)) (γ1 := γ) (γ2 := γ) (hi := none) rfl ho rfl ?_
      show some (D.lst (cutL (b ++ t) (some (b.length : Int)) none)) = _
      rw [cut_pos_hi]
  rw [fb_Work_behind, sSeq_ok e1, sSeq_ok e2, sSeq_ok e3, sSeq_ok e4]
theorem behind_ok {w : Wd} {n n' : Nat} {rows b t out : List D} {γ : List D} (M : Meets w n rows n' b t) (hl : rows.length ≤ 900) (ho : out.length ≤ 900) (h : g_led [w.d, .lst t] γ = .ok (.lst out) γ) : g_Work_behind [.ins 0 [.int (n : Int), .lst rows], w.d] γ = .ok (.ins 0 [.int (n' : Int), .lst (b ++ out)]) γ := by
  obtain ⟨ρ, h5, h6, h1, h3, e⟩ := behind_go M hl γ
  have hb : b.length ≤ 1000 := by
    have h1 := ups_len (w.need - rows.length) n rows
    rw [M.r, List.length_append, M.t] at h1
    have := wd_need_le w
    omega
  have q : eOp gAddA (eVar 5) (eFn 2 g_led (aCons (eVar 1) (aCons (eVar 6) aNil))) ρ γ = .ok (.lst (b ++ out)) γ :=
    cat_ok (var_ok h5 (fun y z => nomatch z)) (fn_ok (ds := [w.d, .lst t]) (acons_ok (var_ok h1 (wd_nm w)) (acons_ok (var_ok h6 (fun y z => nomatch z)) rfl)) rfl h) (by omega)
  have q2 : aCons (eVar 3) (aCons (eOp gAddA (eVar 5) (eFn 2 g_led (aCons (eVar 1) (aCons (eVar 6) aNil)))) aNil) ρ γ = .ok [.int (n' : Int), .lst (b ++ out)] γ := acons_ok (var_ok h3 (fun y z => nomatch z)) (acons_ok q rfl)
  rw [e]
  simp only [sRet, eMake, q2, Res.bind_ok, toOut_ok]
  rfl
theorem behind_err {w : Wd} {n n' : Nat} {rows b t : List D} {γ : List D} {c : Nat} (M : Meets w n rows n' b t) (hl : rows.length ≤ 900) (h : g_led [w.d, .lst t] γ = .err c γ) : g_Work_behind [.ins 0 [.int (n : Int), .lst rows], w.d] γ = .err c γ := by
  obtain ⟨ρ, h5, h6, h1, h3, e⟩ := behind_go M hl γ
  have q0 : eFn 2 g_led (aCons (eVar 1) (aCons (eVar 6) aNil)) ρ γ = .err c γ := fn_err (ds := [w.d, .lst t]) (acons_ok (var_ok h1 (wd_nm w)) (acons_ok (var_ok h6 (fun y z => nomatch z)) rfl)) rfl h
  have q : eOp gAddA (eVar 5) (eFn 2 g_led (aCons (eVar 1) (aCons (eVar 6) aNil))) ρ γ = .err c γ := by
    simp only [eOp, var_ok h5 (fun y z => nomatch z), Res.bind_ok, q0]
    rfl
  have q2 : aCons (eVar 3) (aCons (eOp gAddA (eVar 5) (eFn 2 g_led (aCons (eVar 1) (aCons (eVar 6) aNil)))) aNil) ρ γ = .err c γ := by
    have hh : ∀ (f : ESem) (fs : LSem), f ρ γ = .err c γ → aCons f fs ρ γ = .err c γ := fun f fs z => by
      unfold aCons
      rw [z]
      rfl
    have hk : ∀ (f : ESem) (fs : LSem) (d : D), f ρ γ = .ok d γ → fs ρ γ = .err c γ → aCons f fs ρ γ = .err c γ := fun f fs d z1 z2 => by
      unfold aCons
      rw [z1, Res.bind_ok, z2]
      rfl
    exact hk _ _ _ (var_ok h3 (fun y z => nomatch z)) (hh _ _ q)
  rw [e]
  simp only [sRet, eMake, q2]
  rfl
end DN

set_option maxRecDepth 1000000
/-! P13: the plain law of k13 -/
namespace K13
open PySem PySem.Spec PyProof.Rows L2 DL
theorem roll_eq : g__law_roll = gRoll := rfl
theorem rounds_eq : g__law_rounds = gRounds := rfl
/-- what the seven calls that hold the drawn number do -/
structure Sv (g : Int) (γ : List D) : Prop where
  a : g_form [.tup [.int g]] γ = .err 1 γ
  b : g_run [.tup [], .int g] γ = .err 2 γ
  c : g_uses [.tup [.int g]] γ = .err 3 γ
  d : g_count_shuffles [.int g] γ = .err 4 γ
  e : g_shuffle_words [.int 1, .tup [.int g], .int 1] γ = .err 5 γ
  f : (match dStrA [.int g] with | some t => g_parse_program [t] γ | none => .stuck) = .err 6 γ
  g : g_left_out [.tup [], .int g] γ = .err 7 γ
theorem sv10 (γ : List D) : Sv 10 γ := ⟨by kernel_rfl, by kernel_rfl, by kernel_rfl, by kernel_rfl, by kernel_rfl, by kernel_rfl, by kernel_rfl⟩
theorem sv11 (γ : List D) : Sv 11 γ := ⟨by kernel_rfl, by kernel_rfl, by kernel_rfl, by kernel_rfl, by kernel_rfl, by kernel_rfl, by kernel_rfl⟩
theorem sv12 (γ : List D) : Sv 12 γ := ⟨by kernel_rfl, by kernel_rfl, by kernel_rfl, by kernel_rfl, by kernel_rfl, by kernel_rfl, by kernel_rfl⟩
theorem sv13 (γ : List D) : Sv 13 γ := ⟨by kernel_rfl, by kernel_rfl, by kernel_rfl, by kernel_rfl, by kernel_rfl, by kernel_rfl, by kernel_rfl⟩
theorem sv14 (γ : List D) : Sv 14 γ := ⟨by kernel_rfl, by kernel_rfl, by kernel_rfl, by kernel_rfl, by kernel_rfl, by kernel_rfl, by kernel_rfl⟩
theorem sv15 (γ : List D) : Sv 15 γ := ⟨by kernel_rfl, by kernel_rfl, by kernel_rfl, by kernel_rfl, by kernel_rfl, by kernel_rfl, by kernel_rfl⟩
theorem sv16 (γ : List D) : Sv 16 γ := ⟨by kernel_rfl, by kernel_rfl, by kernel_rfl, by kernel_rfl, by kernel_rfl, by kernel_rfl, by kernel_rfl⟩
theorem sv17 (γ : List D) : Sv 17 γ := ⟨by kernel_rfl, by kernel_rfl, by kernel_rfl, by kernel_rfl, by kernel_rfl, by kernel_rfl, by kernel_rfl⟩
theorem sv18 (γ : List D) : Sv 18 γ := ⟨by kernel_rfl, by kernel_rfl, by kernel_rfl, by kernel_rfl, by kernel_rfl, by kernel_rfl, by kernel_rfl⟩
theorem sv19 (γ : List D) : Sv 19 γ := ⟨by kernel_rfl, by kernel_rfl, by kernel_rfl, by kernel_rfl, by kernel_rfl, by kernel_rfl, by kernel_rfl⟩
theorem sv20 (γ : List D) : Sv 20 γ := ⟨by kernel_rfl, by kernel_rfl, by kernel_rfl, by kernel_rfl, by kernel_rfl, by kernel_rfl, by kernel_rfl⟩
theorem sv21 (γ : List D) : Sv 21 γ := ⟨by kernel_rfl, by kernel_rfl, by kernel_rfl, by kernel_rfl, by kernel_rfl, by kernel_rfl, by kernel_rfl⟩
theorem sv22 (γ : List D) : Sv 22 γ := ⟨by kernel_rfl, by kernel_rfl, by kernel_rfl, by kernel_rfl, by kernel_rfl, by kernel_rfl, by kernel_rfl⟩
theorem sv23 (γ : List D) : Sv 23 γ := ⟨by kernel_rfl, by kernel_rfl, by kernel_rfl, by kernel_rfl, by kernel_rfl, by kernel_rfl, by kernel_rfl⟩
theorem sv24 (γ : List D) : Sv 24 γ := ⟨by kernel_rfl, by kernel_rfl, by kernel_rfl, by kernel_rfl, by kernel_rfl, by kernel_rfl, by kernel_rfl⟩
theorem sv25 (γ : List D) : Sv 25 γ := ⟨by kernel_rfl, by kernel_rfl, by kernel_rfl, by kernel_rfl, by kernel_rfl, by kernel_rfl, by kernel_rfl⟩
theorem sv26 (γ : List D) : Sv 26 γ := ⟨by kernel_rfl, by kernel_rfl, by kernel_rfl, by kernel_rfl, by kernel_rfl, by kernel_rfl, by kernel_rfl⟩
theorem sv27 (γ : List D) : Sv 27 γ := ⟨by kernel_rfl, by kernel_rfl, by kernel_rfl, by kernel_rfl, by kernel_rfl, by kernel_rfl, by kernel_rfl⟩
theorem sv28 (γ : List D) : Sv 28 γ := ⟨by kernel_rfl, by kernel_rfl, by kernel_rfl, by kernel_rfl, by kernel_rfl, by kernel_rfl, by kernel_rfl⟩
theorem sv29 (γ : List D) : Sv 29 γ := ⟨by kernel_rfl, by kernel_rfl, by kernel_rfl, by kernel_rfl, by kernel_rfl, by kernel_rfl, by kernel_rfl⟩
theorem sv30 (γ : List D) : Sv 30 γ := ⟨by kernel_rfl, by kernel_rfl, by kernel_rfl, by kernel_rfl, by kernel_rfl, by kernel_rfl, by kernel_rfl⟩
theorem sv31 (γ : List D) : Sv 31 γ := ⟨by kernel_rfl, by kernel_rfl, by kernel_rfl, by kernel_rfl, by kernel_rfl, by kernel_rfl, by kernel_rfl⟩
theorem sv32 (γ : List D) : Sv 32 γ := ⟨by kernel_rfl, by kernel_rfl, by kernel_rfl, by kernel_rfl, by kernel_rfl, by kernel_rfl, by kernel_rfl⟩
theorem sv33 (γ : List D) : Sv 33 γ := ⟨by kernel_rfl, by kernel_rfl, by kernel_rfl, by kernel_rfl, by kernel_rfl, by kernel_rfl, by kernel_rfl⟩
theorem sv34 (γ : List D) : Sv 34 γ := ⟨by kernel_rfl, by kernel_rfl, by kernel_rfl, by kernel_rfl, by kernel_rfl, by kernel_rfl, by kernel_rfl⟩
theorem sv35 (γ : List D) : Sv 35 γ := ⟨by kernel_rfl, by kernel_rfl, by kernel_rfl, by kernel_rfl, by kernel_rfl, by kernel_rfl, by kernel_rfl⟩
theorem sv36 (γ : List D) : Sv 36 γ := ⟨by kernel_rfl, by kernel_rfl, by kernel_rfl, by kernel_rfl, by kernel_rfl, by kernel_rfl, by kernel_rfl⟩
theorem sv37 (γ : List D) : Sv 37 γ := ⟨by kernel_rfl, by kernel_rfl, by kernel_rfl, by kernel_rfl, by kernel_rfl, by kernel_rfl, by kernel_rfl⟩
theorem sv38 (γ : List D) : Sv 38 γ := ⟨by kernel_rfl, by kernel_rfl, by kernel_rfl, by kernel_rfl, by kernel_rfl, by kernel_rfl, by kernel_rfl⟩
theorem sv39 (γ : List D) : Sv 39 γ := ⟨by kernel_rfl, by kernel_rfl, by kernel_rfl, by kernel_rfl, by kernel_rfl, by kernel_rfl, by kernel_rfl⟩
theorem sv40 (γ : List D) : Sv 40 γ := ⟨by kernel_rfl, by kernel_rfl, by kernel_rfl, by kernel_rfl, by kernel_rfl, by kernel_rfl, by kernel_rfl⟩
theorem sv41 (γ : List D) : Sv 41 γ := ⟨by kernel_rfl, by kernel_rfl, by kernel_rfl, by kernel_rfl, by kernel_rfl, by kernel_rfl, by kernel_rfl⟩
theorem sv42 (γ : List D) : Sv 42 γ := ⟨by kernel_rfl, by kernel_rfl, by kernel_rfl, by kernel_rfl, by kernel_rfl, by kernel_rfl, by kernel_rfl⟩
theorem sv43 (γ : List D) : Sv 43 γ := ⟨by kernel_rfl, by kernel_rfl, by kernel_rfl, by kernel_rfl, by kernel_rfl, by kernel_rfl, by kernel_rfl⟩
theorem sv44 (γ : List D) : Sv 44 γ := ⟨by kernel_rfl, by kernel_rfl, by kernel_rfl, by kernel_rfl, by kernel_rfl, by kernel_rfl, by kernel_rfl⟩
theorem sv45 (γ : List D) : Sv 45 γ := ⟨by kernel_rfl, by kernel_rfl, by kernel_rfl, by kernel_rfl, by kernel_rfl, by kernel_rfl, by kernel_rfl⟩
theorem sv46 (γ : List D) : Sv 46 γ := ⟨by kernel_rfl, by kernel_rfl, by kernel_rfl, by kernel_rfl, by kernel_rfl, by kernel_rfl, by kernel_rfl⟩
theorem sv47 (γ : List D) : Sv 47 γ := ⟨by kernel_rfl, by kernel_rfl, by kernel_rfl, by kernel_rfl, by kernel_rfl, by kernel_rfl, by kernel_rfl⟩
theorem sv48 (γ : List D) : Sv 48 γ := ⟨by kernel_rfl, by kernel_rfl, by kernel_rfl, by kernel_rfl, by kernel_rfl, by kernel_rfl, by kernel_rfl⟩
theorem sv49 (γ : List D) : Sv 49 γ := ⟨by kernel_rfl, by kernel_rfl, by kernel_rfl, by kernel_rfl, by kernel_rfl, by kernel_rfl, by kernel_rfl⟩
theorem sv50 (γ : List D) : Sv 50 γ := ⟨by kernel_rfl, by kernel_rfl, by kernel_rfl, by kernel_rfl, by kernel_rfl, by kernel_rfl, by kernel_rfl⟩
theorem sv51 (γ : List D) : Sv 51 γ := ⟨by kernel_rfl, by kernel_rfl, by kernel_rfl, by kernel_rfl, by kernel_rfl, by kernel_rfl, by kernel_rfl⟩
theorem sv52 (γ : List D) : Sv 52 γ := ⟨by kernel_rfl, by kernel_rfl, by kernel_rfl, by kernel_rfl, by kernel_rfl, by kernel_rfl, by kernel_rfl⟩
theorem sv53 (γ : List D) : Sv 53 γ := ⟨by kernel_rfl, by kernel_rfl, by kernel_rfl, by kernel_rfl, by kernel_rfl, by kernel_rfl, by kernel_rfl⟩
theorem sv54 (γ : List D) : Sv 54 γ := ⟨by kernel_rfl, by kernel_rfl, by kernel_rfl, by kernel_rfl, by kernel_rfl, by kernel_rfl, by kernel_rfl⟩
theorem sv55 (γ : List D) : Sv 55 γ := ⟨by kernel_rfl, by kernel_rfl, by kernel_rfl, by kernel_rfl, by kernel_rfl, by kernel_rfl, by kernel_rfl⟩
theorem sv56 (γ : List D) : Sv 56 γ := ⟨by kernel_rfl, by kernel_rfl, by kernel_rfl, by kernel_rfl, by kernel_rfl, by kernel_rfl, by kernel_rfl⟩
theorem sv57 (γ : List D) : Sv 57 γ := ⟨by kernel_rfl, by kernel_rfl, by kernel_rfl, by kernel_rfl, by kernel_rfl, by kernel_rfl, by kernel_rfl⟩
theorem sv58 (γ : List D) : Sv 58 γ := ⟨by kernel_rfl, by kernel_rfl, by kernel_rfl, by kernel_rfl, by kernel_rfl, by kernel_rfl, by kernel_rfl⟩
theorem sv59 (γ : List D) : Sv 59 γ := ⟨by kernel_rfl, by kernel_rfl, by kernel_rfl, by kernel_rfl, by kernel_rfl, by kernel_rfl, by kernel_rfl⟩
theorem sv60 (γ : List D) : Sv 60 γ := ⟨by kernel_rfl, by kernel_rfl, by kernel_rfl, by kernel_rfl, by kernel_rfl, by kernel_rfl, by kernel_rfl⟩
theorem sv61 (γ : List D) : Sv 61 γ := ⟨by kernel_rfl, by kernel_rfl, by kernel_rfl, by kernel_rfl, by kernel_rfl, by kernel_rfl, by kernel_rfl⟩
theorem sv62 (γ : List D) : Sv 62 γ := ⟨by kernel_rfl, by kernel_rfl, by kernel_rfl, by kernel_rfl, by kernel_rfl, by kernel_rfl, by kernel_rfl⟩
theorem sv63 (γ : List D) : Sv 63 γ := ⟨by kernel_rfl, by kernel_rfl, by kernel_rfl, by kernel_rfl, by kernel_rfl, by kernel_rfl, by kernel_rfl⟩
theorem sv64 (γ : List D) : Sv 64 γ := ⟨by kernel_rfl, by kernel_rfl, by kernel_rfl, by kernel_rfl, by kernel_rfl, by kernel_rfl, by kernel_rfl⟩
theorem sv65 (γ : List D) : Sv 65 γ := ⟨by kernel_rfl, by kernel_rfl, by kernel_rfl, by kernel_rfl, by kernel_rfl, by kernel_rfl, by kernel_rfl⟩
theorem sv66 (γ : List D) : Sv 66 γ := ⟨by kernel_rfl, by kernel_rfl, by kernel_rfl, by kernel_rfl, by kernel_rfl, by kernel_rfl, by kernel_rfl⟩
theorem sv67 (γ : List D) : Sv 67 γ := ⟨by kernel_rfl, by kernel_rfl, by kernel_rfl, by kernel_rfl, by kernel_rfl, by kernel_rfl, by kernel_rfl⟩
theorem sv68 (γ : List D) : Sv 68 γ := ⟨by kernel_rfl, by kernel_rfl, by kernel_rfl, by kernel_rfl, by kernel_rfl, by kernel_rfl, by kernel_rfl⟩
theorem sv69 (γ : List D) : Sv 69 γ := ⟨by kernel_rfl, by kernel_rfl, by kernel_rfl, by kernel_rfl, by kernel_rfl, by kernel_rfl, by kernel_rfl⟩
theorem sv70 (γ : List D) : Sv 70 γ := ⟨by kernel_rfl, by kernel_rfl, by kernel_rfl, by kernel_rfl, by kernel_rfl, by kernel_rfl, by kernel_rfl⟩
theorem sv71 (γ : List D) : Sv 71 γ := ⟨by kernel_rfl, by kernel_rfl, by kernel_rfl, by kernel_rfl, by kernel_rfl, by kernel_rfl, by kernel_rfl⟩
theorem sv72 (γ : List D) : Sv 72 γ := ⟨by kernel_rfl, by kernel_rfl, by kernel_rfl, by kernel_rfl, by kernel_rfl, by kernel_rfl, by kernel_rfl⟩
theorem sv73 (γ : List D) : Sv 73 γ := ⟨by kernel_rfl, by kernel_rfl, by kernel_rfl, by kernel_rfl, by kernel_rfl, by kernel_rfl, by kernel_rfl⟩
theorem sv74 (γ : List D) : Sv 74 γ := ⟨by kernel_rfl, by kernel_rfl, by kernel_rfl, by kernel_rfl, by kernel_rfl, by kernel_rfl, by kernel_rfl⟩
theorem sv75 (γ : List D) : Sv 75 γ := ⟨by kernel_rfl, by kernel_rfl, by kernel_rfl, by kernel_rfl, by kernel_rfl, by kernel_rfl, by kernel_rfl⟩
theorem sv76 (γ : List D) : Sv 76 γ := ⟨by kernel_rfl, by kernel_rfl, by kernel_rfl, by kernel_rfl, by kernel_rfl, by kernel_rfl, by kernel_rfl⟩
theorem sv77 (γ : List D) : Sv 77 γ := ⟨by kernel_rfl, by kernel_rfl, by kernel_rfl, by kernel_rfl, by kernel_rfl, by kernel_rfl, by kernel_rfl⟩
theorem sv78 (γ : List D) : Sv 78 γ := ⟨by kernel_rfl, by kernel_rfl, by kernel_rfl, by kernel_rfl, by kernel_rfl, by kernel_rfl, by kernel_rfl⟩
theorem sv79 (γ : List D) : Sv 79 γ := ⟨by kernel_rfl, by kernel_rfl, by kernel_rfl, by kernel_rfl, by kernel_rfl, by kernel_rfl, by kernel_rfl⟩
theorem sv80 (γ : List D) : Sv 80 γ := ⟨by kernel_rfl, by kernel_rfl, by kernel_rfl, by kernel_rfl, by kernel_rfl, by kernel_rfl, by kernel_rfl⟩
theorem sv81 (γ : List D) : Sv 81 γ := ⟨by kernel_rfl, by kernel_rfl, by kernel_rfl, by kernel_rfl, by kernel_rfl, by kernel_rfl, by kernel_rfl⟩
theorem sv82 (γ : List D) : Sv 82 γ := ⟨by kernel_rfl, by kernel_rfl, by kernel_rfl, by kernel_rfl, by kernel_rfl, by kernel_rfl, by kernel_rfl⟩
theorem sv83 (γ : List D) : Sv 83 γ := ⟨by kernel_rfl, by kernel_rfl, by kernel_rfl, by kernel_rfl, by kernel_rfl, by kernel_rfl, by kernel_rfl⟩
theorem sv84 (γ : List D) : Sv 84 γ := ⟨by kernel_rfl, by kernel_rfl, by kernel_rfl, by kernel_rfl, by kernel_rfl, by kernel_rfl, by kernel_rfl⟩
theorem sv85 (γ : List D) : Sv 85 γ := ⟨by kernel_rfl, by kernel_rfl, by kernel_rfl, by kernel_rfl, by kernel_rfl, by kernel_rfl, by kernel_rfl⟩
theorem sv86 (γ : List D) : Sv 86 γ := ⟨by kernel_rfl, by kernel_rfl, by kernel_rfl, by kernel_rfl, by kernel_rfl, by kernel_rfl, by kernel_rfl⟩
theorem sv87 (γ : List D) : Sv 87 γ := ⟨by kernel_rfl, by kernel_rfl, by kernel_rfl, by kernel_rfl, by kernel_rfl, by kernel_rfl, by kernel_rfl⟩
theorem sv88 (γ : List D) : Sv 88 γ := ⟨by kernel_rfl, by kernel_rfl, by kernel_rfl, by kernel_rfl, by kernel_rfl, by kernel_rfl, by kernel_rfl⟩
theorem sv89 (γ : List D) : Sv 89 γ := ⟨by kernel_rfl, by kernel_rfl, by kernel_rfl, by kernel_rfl, by kernel_rfl, by kernel_rfl, by kernel_rfl⟩
theorem sv90 (γ : List D) : Sv 90 γ := ⟨by kernel_rfl, by kernel_rfl, by kernel_rfl, by kernel_rfl, by kernel_rfl, by kernel_rfl, by kernel_rfl⟩
theorem sv91 (γ : List D) : Sv 91 γ := ⟨by kernel_rfl, by kernel_rfl, by kernel_rfl, by kernel_rfl, by kernel_rfl, by kernel_rfl, by kernel_rfl⟩
theorem sv92 (γ : List D) : Sv 92 γ := ⟨by kernel_rfl, by kernel_rfl, by kernel_rfl, by kernel_rfl, by kernel_rfl, by kernel_rfl, by kernel_rfl⟩
theorem sv93 (γ : List D) : Sv 93 γ := ⟨by kernel_rfl, by kernel_rfl, by kernel_rfl, by kernel_rfl, by kernel_rfl, by kernel_rfl, by kernel_rfl⟩
theorem sv94 (γ : List D) : Sv 94 γ := ⟨by kernel_rfl, by kernel_rfl, by kernel_rfl, by kernel_rfl, by kernel_rfl, by kernel_rfl, by kernel_rfl⟩
theorem sv95 (γ : List D) : Sv 95 γ := ⟨by kernel_rfl, by kernel_rfl, by kernel_rfl, by kernel_rfl, by kernel_rfl, by kernel_rfl, by kernel_rfl⟩
theorem sv96 (γ : List D) : Sv 96 γ := ⟨by kernel_rfl, by kernel_rfl, by kernel_rfl, by kernel_rfl, by kernel_rfl, by kernel_rfl, by kernel_rfl⟩
theorem sv97 (γ : List D) : Sv 97 γ := ⟨by kernel_rfl, by kernel_rfl, by kernel_rfl, by kernel_rfl, by kernel_rfl, by kernel_rfl, by kernel_rfl⟩
theorem sv98 (γ : List D) : Sv 98 γ := ⟨by kernel_rfl, by kernel_rfl, by kernel_rfl, by kernel_rfl, by kernel_rfl, by kernel_rfl, by kernel_rfl⟩
theorem sv99 (γ : List D) : Sv 99 γ := ⟨by kernel_rfl, by kernel_rfl, by kernel_rfl, by kernel_rfl, by kernel_rfl, by kernel_rfl, by kernel_rfl⟩
theorem svt0 (g : Int) (h1 : 10 ≤ g) (h2 : g ≤ 19) (γ : List D) : Sv g γ := by
  have h : g = 10 ∨ g = 11 ∨ g = 12 ∨ g = 13 ∨ g = 14 ∨ g = 15 ∨ g = 16 ∨ g = 17 ∨ g = 18 ∨ g = 19 := by omega
  rcases h with rfl | rfl | rfl | rfl | rfl | rfl | rfl | rfl | rfl | rfl
  · exact sv10 γ
  · exact sv11 γ
  · exact sv12 γ
  · exact sv13 γ
  · exact sv14 γ
  · exact sv15 γ
  · exact sv16 γ
  · exact sv17 γ
  · exact sv18 γ
  · exact sv19 γ
theorem svt1 (g : Int) (h1 : 20 ≤ g) (h2 : g ≤ 29) (γ : List D) : Sv g γ := by
  have h : g = 20 ∨ g = 21 ∨ g = 22 ∨ g = 23 ∨ g = 24 ∨ g = 25 ∨ g = 26 ∨ g = 27 ∨ g = 28 ∨ g = 29 := by omega
  rcases h with rfl | rfl | rfl | rfl | rfl | rfl | rfl | rfl | rfl | rfl
  · exact sv20 γ
  · exact sv21 γ
  · exact sv22 γ
  · exact sv23 γ
  · exact sv24 γ
  · exact sv25 γ
  · exact sv26 γ
  · exact sv27 γ
  · exact sv28 γ
  · exact sv29 γ
theorem svt2 (g : Int) (h1 : 30 ≤ g) (h2 : g ≤ 39) (γ : List D) : Sv g γ := by
  have h : g = 30 ∨ g = 31 ∨ g = 32 ∨ g = 33 ∨ g = 34 ∨ g = 35 ∨ g = 36 ∨ g = 37 ∨ g = 38 ∨ g = 39 := by omega
  rcases h with rfl | rfl | rfl | rfl | rfl | rfl | rfl | rfl | rfl | rfl
  · exact sv30 γ
  · exact sv31 γ
  · exact sv32 γ
  · exact sv33 γ
  · exact sv34 γ
  · exact sv35 γ
  · exact sv36 γ
  · exact sv37 γ
  · exact sv38 γ
  · exact sv39 γ
theorem svt3 (g : Int) (h1 : 40 ≤ g) (h2 : g ≤ 49) (γ : List D) : Sv g γ := by
  have h : g = 40 ∨ g = 41 ∨ g = 42 ∨ g = 43 ∨ g = 44 ∨ g = 45 ∨ g = 46 ∨ g = 47 ∨ g = 48 ∨ g = 49 := by omega
  rcases h with rfl | rfl | rfl | rfl | rfl | rfl | rfl | rfl | rfl | rfl
  · exact sv40 γ
  · exact sv41 γ
  · exact sv42 γ
  · exact sv43 γ
  · exact sv44 γ
  · exact sv45 γ
  · exact sv46 γ
  · exact sv47 γ
  · exact sv48 γ
  · exact sv49 γ
theorem svt4 (g : Int) (h1 : 50 ≤ g) (h2 : g ≤ 59) (γ : List D) : Sv g γ := by
  have h : g = 50 ∨ g = 51 ∨ g = 52 ∨ g = 53 ∨ g = 54 ∨ g = 55 ∨ g = 56 ∨ g = 57 ∨ g = 58 ∨ g = 59 := by omega
  rcases h with rfl | rfl | rfl | rfl | rfl | rfl | rfl | rfl | rfl | rfl
  · exact sv50 γ
  · exact sv51 γ
  · exact sv52 γ
  · exact sv53 γ
  · exact sv54 γ
  · exact sv55 γ
  · exact sv56 γ
  · exact sv57 γ
  · exact sv58 γ
  · exact sv59 γ
theorem svt5 (g : Int) (h1 : 60 ≤ g) (h2 : g ≤ 69) (γ : List D) : Sv g γ := by
  have h : g = 60 ∨ g = 61 ∨ g = 62 ∨ g = 63 ∨ g = 64 ∨ g = 65 ∨ g = 66 ∨ g = 67 ∨ g = 68 ∨ g = 69 := by omega
  rcases h with rfl | rfl | rfl | rfl | rfl | rfl | rfl | rfl | rfl | rfl
  · exact sv60 γ
  · exact sv61 γ
  · exact sv62 γ
  · exact sv63 γ
  · exact sv64 γ
  · exact sv65 γ
  · exact sv66 γ
  · exact sv67 γ
  · exact sv68 γ
  · exact sv69 γ
theorem svt6 (g : Int) (h1 : 70 ≤ g) (h2 : g ≤ 79) (γ : List D) : Sv g γ := by
  have h : g = 70 ∨ g = 71 ∨ g = 72 ∨ g = 73 ∨ g = 74 ∨ g = 75 ∨ g = 76 ∨ g = 77 ∨ g = 78 ∨ g = 79 := by omega
  rcases h with rfl | rfl | rfl | rfl | rfl | rfl | rfl | rfl | rfl | rfl
  · exact sv70 γ
  · exact sv71 γ
  · exact sv72 γ
  · exact sv73 γ
  · exact sv74 γ
  · exact sv75 γ
  · exact sv76 γ
  · exact sv77 γ
  · exact sv78 γ
  · exact sv79 γ
theorem svt7 (g : Int) (h1 : 80 ≤ g) (h2 : g ≤ 89) (γ : List D) : Sv g γ := by
  have h : g = 80 ∨ g = 81 ∨ g = 82 ∨ g = 83 ∨ g = 84 ∨ g = 85 ∨ g = 86 ∨ g = 87 ∨ g = 88 ∨ g = 89 := by omega
  rcases h with rfl | rfl | rfl | rfl | rfl | rfl | rfl | rfl | rfl | rfl
  · exact sv80 γ
  · exact sv81 γ
  · exact sv82 γ
  · exact sv83 γ
  · exact sv84 γ
  · exact sv85 γ
  · exact sv86 γ
  · exact sv87 γ
  · exact sv88 γ
  · exact sv89 γ
theorem svt8 (g : Int) (h1 : 90 ≤ g) (h2 : g ≤ 99) (γ : List D) : Sv g γ := by
  have h : g = 90 ∨ g = 91 ∨ g = 92 ∨ g = 93 ∨ g = 94 ∨ g = 95 ∨ g = 96 ∨ g = 97 ∨ g = 98 ∨ g = 99 := by omega
  rcases h with rfl | rfl | rfl | rfl | rfl | rfl | rfl | rfl | rfl | rfl
  · exact sv90 γ
  · exact sv91 γ
  · exact sv92 γ
  · exact sv93 γ
  · exact sv94 γ
  · exact sv95 γ
  · exact sv96 γ
  · exact sv97 γ
  · exact sv98 γ
  · exact sv99 γ
theorem sv (g : Int) (h1 : 10 ≤ g) (h2 : g ≤ 99) (γ : List D) : Sv g γ := by
  have h : (10 ≤ g ∧ g ≤ 19) ∨ (20 ≤ g ∧ g ≤ 29) ∨ (30 ≤ g ∧ g ≤ 39) ∨ (40 ≤ g ∧ g ≤ 49) ∨ (50 ≤ g ∧ g ≤ 59) ∨ (60 ≤ g ∧ g ≤ 69) ∨ (70 ≤ g ∧ g ≤ 79) ∨ (80 ≤ g ∧ g ≤ 89) ∨ (90 ≤ g ∧ g ≤ 99) := by omega
  rcases h with ⟨a, b⟩ | ⟨a, b⟩ | ⟨a, b⟩ | ⟨a, b⟩ | ⟨a, b⟩ | ⟨a, b⟩ | ⟨a, b⟩ | ⟨a, b⟩ | ⟨a, b⟩
  · exact svt0 g a b γ
  · exact svt1 g a b γ
  · exact svt2 g a b γ
  · exact svt3 g a b γ
  · exact svt4 g a b γ
  · exact svt5 g a b γ
  · exact svt6 g a b γ
  · exact svt7 g a b γ
  · exact svt8 g a b γ
theorem run_drop (γ : List D) : g_run [.tup [.str "drop"], .tup []] γ = .err 8 γ := by kernel_rfl
theorem form_ten (γ : List D) : g_form [.tup [.str "dup", .str "mul", .str "dup", .str "mul", .str "dup", .str "mul", .str "dup", .str "mul", .str "dup", .str "mul"]] γ = .err 9 γ := by kernel_rfl
theorem need_nil (γ : List D) : g_need_program [.tup []] γ = .ok .non γ := by kernel_rfl
section
variable {γ : List D} {ρ : DL.Env} {c i j n : Nat} {fo fv : ESem} {ds : List D} {v : D} {g : List D → List D → Res D}
theorem sFld_new (h1 : fv ρ γ = .ok v γ) (h : fo ρ γ = .ok (.cell j) γ) (hj : γ[j]? = some (.ins c ds)) (hi : i = ds.length) : sFldC c i fo fv ρ γ = .nx ρ (γ.set j (.ins c (ds ++ [v]))) := by
  simp only [sFldC, h1, toOut_ok, h, hj, if_true, if_neg (show ¬ i < ds.length by omega), if_pos hi]
theorem isC_ok (hj : γ[j]? = some (.ins c ds)) : isCls c γ j = true := by
  unfold isCls
  rw [hj]
  simp
end
theorem desk_new (γ : List D) : g_Desk___init__ [.cell γ.length, .tup []] (γ ++ [.ins 1 []]) = .ok .non (γ ++ [.ins 1 [.lst [.tup []], .lst []]]) := by
  show bodyR (fb_Desk___init__ [some (.cell γ.length), some (.tup [])] (γ ++ [.ins 1 []])) = _
  have e1 : sExpr (eFn 1 g_need_program (aCons (eVar 1) aNil)) [some (.cell γ.length), some (.tup [])] (γ ++ [.ins 1 []]) = .nx [some (.cell γ.length), some (.tup [])] (γ ++ [.ins 1 []]) := expr_ok (fn_ok (ds := [.tup []]) (acons_ok rfl rfl) rfl (need_nil _))
  have s1 : ∀ x y : D, (γ ++ [x]).set γ.length y = γ ++ [y] := fun x y => by simp
  have e2 : sFldC 1 0 (eVar 0) (eLst (aLim 1000000 (aCons (eVar 1) aNil))) [some (.cell γ.length), some (.tup [])] (γ ++ [.ins 1 []]) = .nx [some (.cell γ.length), some (.tup [])] (γ ++ [.ins 1 [.lst [.tup []]]]) := by
    have q := sFld_new (c := 1) (i := 0) (fo := eVar 0) (fv := eLst (aLim 1000000 (aCons (eVar 1) aNil))) (ρ := [some (.cell γ.length), some (.tup [])]) (γ := γ ++ [.ins 1 []]) (ds := []) (v := .lst [.tup []]) (j := γ.length) rfl rfl (by simp) rfl
    rw [s1] at q
    exact q
  have e3 : sFldC 1 1 (eVar 0) (eLst (aLim 1000000 aNil)) [some (.cell γ.length), some (.tup [])] (γ ++ [.ins 1 [.lst [.tup []]]]) = .nx [some (.cell γ.length), some (.tup [])] (γ ++ [.ins 1 [.lst [.tup []], .lst []]]) := by
    have q := sFld_new (c := 1) (i := 1) (fo := eVar 0) (fv := eLst (aLim 1000000 aNil)) (ρ := [some (.cell γ.length), some (.tup [])]) (γ := γ ++ [.ins 1 [.lst [.tup []]]]) (ds := [.lst [.tup []]]) (v := .lst []) (j := γ.length) rfl rfl (by simp) rfl
    rw [s1] at q
    exact q
  rw [fb_Desk___init__, sSeq_ok e1, sSeq_ok e2, e3]
  rfl
theorem desk_redo (γ : List D) (ρ : DL.Env) : eMethC0 1 1 g_Desk_redo (eMakeC 1 2 g_Desk___init__ (aCons (eTup (aLim 1000000 aNil)) aNil)) ρ γ = .err 10 (γ ++ [.ins 1 [.lst [.tup []], .lst []]]) := by
  have e1 : eMakeC 1 2 g_Desk___init__ (aCons (eTup (aLim 1000000 aNil)) aNil) ρ γ = .ok (.cell γ.length) (γ ++ [.ins 1 [.lst [.tup []], .lst []]]) := by
    have ha : aCons (eTup (aLim 1000000 aNil)) aNil ρ γ = .ok [.tup []] γ := rfl
    simp only [eMakeC, ha, Res.bind_ok]
    rw [if_pos (show ([D.cell γ.length, D.tup []] : List D).length = 2 from rfl), desk_new]
    rfl
  have hj : (γ ++ [D.ins 1 [.lst [.tup []], .lst []]])[γ.length]? = some (.ins 1 [.lst [.tup []], .lst []]) := by simp
  simp only [eMethC0, e1, Res.bind_ok, isC_ok hj, if_true]
  rw [if_pos (show ([D.cell γ.length] : List D).length = 1 from rfl)]
  show bodyR (fb_Desk_redo [some (.cell γ.length), none] (γ ++ [.ins 1 [.lst [.tup []], .lst []]])) = _
  have e2 : eFldC 1 1 (eVar 0) [some (.cell γ.length), none] (γ ++ [.ins 1 [.lst [.tup []], .lst []]]) = .ok (.lst []) (γ ++ [.ins 1 [.lst [.tup []], .lst []]]) := by
    have hv : eVar 0 [some (.cell γ.length), none] (γ ++ [.ins 1 [.lst [.tup []], .lst []]]) = .ok (.cell γ.length) (γ ++ [.ins 1 [.lst [.tup []], .lst []]]) := rfl
    simp only [eFldC, hv, Res.bind_ok, hj]
    rfl
  have e3 : cCmp dEqN (eFldC 1 1 (eVar 0)) (eLst (aLim 1000000 aNil)) [some (.cell γ.length), none] (γ ++ [.ins 1 [.lst [.tup []], .lst []]]) = .ok true (γ ++ [.ins 1 [.lst [.tup []], .lst []]]) := by
    simp only [cCmp, e2, Res.bind_ok]
    rfl
  rw [fb_Desk_redo, seq_err (ρ1 := [some (.cell γ.length), none]) (γ1 := γ ++ [.ins 1 [.lst [.tup []], .lst []]]) (c := 10) (by rw [sIf_ok e3]; rfl)]
  rfl
theorem lst1 {f : ESem} {ρ : DL.Env} {γ γ1 : List D} {d : D} (h : f ρ γ = .ok d γ1) : eLst (aLim 1000000 (aCons f aNil)) ρ γ = .ok (.lst [d]) γ1 := by
  unfold eLst aLim
  rw [acons_ok h rfl]
  rfl
theorem met_err {f : ESem} {ρ : DL.Env} {γ γ1 : List D} {n : Nat} (h : f ρ γ = .err n γ1) (ho : okn n = true) : eMet okn f ρ γ = .ok (.exc n) γ1 := by
  unfold eMet
  rw [h]
  exact if_pos ho
theorem app_err {f : ESem} {ρ : DL.Env} {γ γ1 acc : List D} {n : Nat} (h0 : ρ[3]? = some (some (.mine (.lst acc)))) (h : f ρ γ = .err n γ1) (ho : okn n = true) (hz : acc.length < 1000000) : sApp 3 (eMet okn f) ρ γ = .nx (ρ.set 3 (some (.mine (.lst (acc ++ [.exc n]))))) γ1 := sApp_ok h0 (met_err h ho) hz
theorem last_ok (x0 x4 x5 : Option D) (c : Nat) (g : Int) (γ : List D) : q11 [x0, some (.cell c), some (.int g), some (.mine (.lst [.exc 1, .exc 2, .exc 3, .exc 4, .exc 5, .exc 6, .exc 7, .exc 8, .exc 9, .exc 10])), x4, x5] γ = .nx [x0, some (.cell c), some (.int g), some (.lst [.exc 1, .exc 2, .exc 3, .exc 4, .exc 5, .exc 6, .exc 7, .exc 8, .exc 9, .exc 10]), x4, x5] γ := by kernel_rfl
theorem body_ok (x0 x3 x4 x5 : Option D) (c : Nat) (g : Int) (h1 : 10 ≤ g) (h2 : g ≤ 99) (γ : List D) : ∃ ρ', sSeq q1 (sSeq q2 (sSeq q3 (sSeq q4 (sSeq q5 (sSeq q6 (sSeq q7 (sSeq q8 (sSeq q9 (sSeq q10 q11))))))))) [x0, some (.cell c), some (.int g), x3, x4, x5] γ = .nx [x0, some (.cell c), some (.int g), ρ', x4, x5] (γ ++ [.ins 1 [.lst [.tup []], .lst []]]) := by
  have s := sv g h1 h2 γ
  have v2 : ∀ (x : Option D), eVar 2 [x0, some (.cell c), some (.int g), x, x4, x5] γ = .ok (.int g) γ := fun _ => rfl
  have t1 : ∀ (x : Option D), eTup (aLim 1000000 (aCons (eVar 2) aNil)) [x0, some (.cell c), some (.int g), x, x4, x5] γ = .ok (.tup [.int g]) γ := fun _ => rfl
  have e1 : q1 [x0, some (.cell c), some (.int g), x3, x4, x5] γ = .nx [x0, some (.cell c), some (.int g), some (.mine (.lst [.exc 1])), x4, x5] γ := by
    have m := met_err (ρ := [x0, some (.cell c), some (.int g), x3, x4, x5]) (f := eFn 1 g_form (aCons (eTup (aLim 1000000 (aCons (eVar 2) aNil))) aNil)) (fn_err (ds := [.tup [.int g]]) (acons_ok (t1 _) rfl) rfl s.a) rfl
    unfold q1
    exact DN.sNew_ok (lst1 m)
  have e2 : ∀ acc, acc.length < 100 → q2 [x0, some (.cell c), some (.int g), some (.mine (.lst acc)), x4, x5] γ = .nx [x0, some (.cell c), some (.int g), some (.mine (.lst (acc ++ [.exc 2]))), x4, x5] γ := fun acc hl =>
    app_err rfl (fn_err (ds := [.tup [], .int g]) (acons_ok rfl (acons_ok (v2 _) rfl)) rfl s.b) rfl (by omega)
  have e3 : ∀ acc, acc.length < 100 → q3 [x0, some (.cell c), some (.int g), some (.mine (.lst acc)), x4, x5] γ = .nx [x0, some (.cell c), some (.int g), some (.mine (.lst (acc ++ [.exc 3]))), x4, x5] γ := fun acc hl =>
    app_err rfl (fn_err (ds := [.tup [.int g]]) (acons_ok (t1 _) rfl) rfl s.c) rfl (by omega)
  have e4 : ∀ acc, acc.length < 100 → q4 [x0, some (.cell c), some (.int g), some (.mine (.lst acc)), x4, x5] γ = .nx [x0, some (.cell c), some (.int g), some (.mine (.lst (acc ++ [.exc 4]))), x4, x5] γ := fun acc hl =>
    app_err rfl (fn_err (ds := [.int g]) (acons_ok (v2 _) rfl) rfl s.d) rfl (by omega)
  have e5 : ∀ acc, acc.length < 100 → q5 [x0, some (.cell c), some (.int g), some (.mine (.lst acc)), x4, x5] γ = .nx [x0, some (.cell c), some (.int g), some (.mine (.lst (acc ++ [.exc 5]))), x4, x5] γ := fun acc hl =>
    app_err rfl (fn_err (ds := [.int 1, .tup [.int g], .int 1]) (acons_ok rfl (acons_ok (t1 _) (acons_ok rfl rfl))) rfl s.e) rfl (by omega)
  have e6 : ∀ acc, acc.length < 100 → q6 [x0, some (.cell c), some (.int g), some (.mine (.lst acc)), x4, x5] γ = .nx [x0, some (.cell c), some (.int g), some (.mine (.lst (acc ++ [.exc 6]))), x4, x5] γ := fun acc hl => by
    have sf := s.f
    cases q : dStrA [.int g] with
    | none => rw [q] at sf; cases sf
    | some t =>
      rw [q] at sf
      have hc : eCall dStrA (aCons (eVar 2) aNil) [x0, some (.cell c), some (.int g), some (.mine (.lst acc)), x4, x5] γ = .ok t γ := DN.eCall_ok (acons_ok (v2 _) rfl) q
      exact app_err rfl (fn_err (ds := [t]) (acons_ok hc rfl) rfl sf) rfl (by omega)
  have e7 : ∀ acc, acc.length < 100 → q7 [x0, some (.cell c), some (.int g), some (.mine (.lst acc)), x4, x5] γ = .nx [x0, some (.cell c), some (.int g), some (.mine (.lst (acc ++ [.exc 7]))), x4, x5] γ := fun acc hl =>
    app_err rfl (fn_err (ds := [.tup [], .int g]) (acons_ok rfl (acons_ok (v2 _) rfl)) rfl s.g) rfl (by omega)
  have e8 : ∀ acc, acc.length < 100 → q8 [x0, some (.cell c), some (.int g), some (.mine (.lst acc)), x4, x5] γ = .nx [x0, some (.cell c), some (.int g), some (.mine (.lst (acc ++ [.exc 8]))), x4, x5] γ := fun acc hl =>
    app_err rfl (fn_err (ds := [.tup [.str "drop"], .tup []]) (acons_ok rfl (acons_ok rfl rfl)) rfl (run_drop γ)) rfl (by omega)
  have e9 : ∀ acc, acc.length < 100 → q9 [x0, some (.cell c), some (.int g), some (.mine (.lst acc)), x4, x5] γ = .nx [x0, some (.cell c), some (.int g), some (.mine (.lst (acc ++ [.exc 9]))), x4, x5] γ := fun acc hl =>
    app_err rfl (fn_err (ds := [.tup [.str "dup", .str "mul", .str "dup", .str "mul", .str "dup", .str "mul", .str "dup", .str "mul", .str "dup", .str "mul"]]) (acons_ok (by kernel_rfl) rfl) rfl (form_ten γ)) rfl (by omega)
  have e10 : ∀ acc, acc.length < 100 → q10 [x0, some (.cell c), some (.int g), some (.mine (.lst acc)), x4, x5] γ = .nx [x0, some (.cell c), some (.int g), some (.mine (.lst (acc ++ [.exc 10]))), x4, x5] (γ ++ [.ins 1 [.lst [.tup []], .lst []]]) := fun acc hl =>
    app_err rfl (desk_redo γ _) rfl (by omega)
  refine ⟨some (.lst [.exc 1, .exc 2, .exc 3, .exc 4, .exc 5, .exc 6, .exc 7, .exc 8, .exc 9, .exc 10]), ?_⟩
  rw [sSeq_ok e1, sSeq_ok (e2 _ (by decide)), sSeq_ok (e3 _ (by decide)), sSeq_ok (e4 _ (by decide)), sSeq_ok (e5 _ (by decide)), sSeq_ok (e6 _ (by decide)), sSeq_ok (e7 _ (by decide)), sSeq_ok (e8 _ (by decide)), sSeq_ok (e9 _ (by decide)), sSeq_ok (e10 _ (by decide))]
  exact last_ok x0 x4 x5 c g _
theorem loop_dice {b : SSem} (I : List (Option D) → Prop) : ∀ (cs : List Nat) (ρ : List (Option D)) (γ : List D), I ρ → (∀ c ∈ cs, ∃ u v : Int, γ[c]? = some (.lst [.int u, .int v])) →
    (∀ (c : Nat) (ρ : List (Option D)) (γ : List D), I ρ → (∃ u v : Int, γ[c]? = some (.lst [.int u, .int v])) → ∃ ρ2 γ2, b (ρ.set 1 (some (.cell c))) γ = .nx ρ2 γ2 ∧ I ρ2 ∧ (∃ u v : Int, γ2[c]? = some (.lst [.int u, .int v])) ∧ ∀ n, n < γ.length → n ≠ c → γ2[n]? = γ[n]?) → ∃ ρ' γ', loopS (gtN 1) b (cs.map D.cell) ρ γ = .nx ρ' γ'
  | [], ρ, γ, _, _, _ => ⟨ρ, γ, rfl⟩
  | c :: cs, ρ, γ, h, hc, hs => by
    obtain ⟨ρ2, γ2, e, h2, h3, h4⟩ := hs c ρ γ h (hc c (by simp))
    obtain ⟨ρ', γ', e2⟩ := loop_dice I cs ρ2 γ2 h2 (fun x hx => by
      obtain ⟨u, v, hx2⟩ := hc x (by simp [hx])
      by_cases q : x = c
      · rw [q]; exact h3
      · exact ⟨u, v, by rw [h4 x (List.getElem?_eq_some_iff.mp hx2).1 q]; exact hx2⟩) hs
    refine ⟨ρ', γ', ?_⟩
    simp only [List.map_cons, loopS, gtN, e]
    exact e2
theorem round_ok {c : Nat} {x0 x2 x3 x4 x5 : Option D} {γ : List D} (hd : ∃ u v : Int, γ[c]? = some (.lst [.int u, .int v])) : ∃ y2 y3 γ', q12 [x0, some (.cell c), x2, x3, x4, x5] γ = .nx [x0, some (.cell c), y2, y3, x4, x5] γ' ∧ (∃ u v : Int, γ'[c]? = some (.lst [.int u, .int v])) ∧ ∀ n, n < γ.length → n ≠ c → γ'[n]? = γ[n]? := by
  have hc : c < γ.length := by obtain ⟨u, v, h⟩ := hd; exact (List.getElem?_eq_some_iff.mp h).1
  obtain ⟨r, γ1, e1, a1, a2, a3, a4⟩ := roll_L (n := c) (γ0 := γ) (γ := γ) ⟨hd, rfl, fun _ _ => rfl⟩ hc (m := 90) (by decide) (by decide)
  have e0 : q0 [x0, some (.cell c), x2, x3, x4, x5] γ = .nx [x0, some (.cell c), some (.int (10 + r)), x3, x4, x5] γ1 := sSet_ok (eOp_ok rfl (fn_ok (ds := [.cell c, .int 90]) (acons_ok rfl (acons_ok rfl rfl)) rfl e1) rfl)
  obtain ⟨y3, e2⟩ := body_ok x0 x3 x4 x5 c (10 + r) (by omega) (by omega) γ1
  refine ⟨some (.int (10 + r)), y3, γ1 ++ [.ins 1 [.lst [.tup []], .lst []]], ?_, ?_, fun n hn hne => ?_⟩
  · show sSeq q0 _ _ _ = _
    rw [sSeq_ok e0]
    exact e2
  · obtain ⟨u, v, h⟩ := a3.1
    exact ⟨u, v, by rw [List.getElem?_append_left (by rw [a4]; exact hc)]; exact h⟩
  · rw [List.getElem?_append_left (by rw [a4]; exact hn)]
    exact a3.2.2 n hne
theorem plain (ns : List Int) (h : ns.length ≤ 63) : ∃ γ', g_law [.scr ns] [] = .ok (.bl true) γ' := by
  obtain ⟨γ1, e1, hγ⟩ := rounds_ok ns (by omega) (m := 4) (by decide) (by decide)
  obtain ⟨ρ', γ', e2⟩ := loop_dice (b := q12) (fun ρ => ∃ x0 x1 x2 x3 x4 x5, ρ = [x0, x1, x2, x3, x4, x5]) (List.range' 0 γ1.length) (startE 6 [.scr ns]) γ1 ⟨_, _, _, _, _, _, rfl⟩ (fun c hc => by
    obtain ⟨i, hi, rfl⟩ := List.mem_range'.mp hc
    have hlt : 0 + 1 * i < γ1.length := by omega
    obtain ⟨a, b, e⟩ := hγ _ _ (List.getElem?_eq_getElem hlt)
    exact ⟨a, b, by rw [List.getElem?_eq_getElem hlt, e]⟩) (fun c ρ γ hρ hd => by
      obtain ⟨x0, x1, x2, x3, x4, x5, rfl⟩ := hρ
      obtain ⟨y2, y3, γ', e, g1, g3⟩ := round_ok (x0 := x0) (x2 := x2) (x3 := x3) (x4 := x4) (x5 := x5) hd
      exact ⟨_, γ', e, ⟨_, _, _, _, _, _, rfl⟩, g1, g3⟩)
  refine ⟨γ', ?_⟩
  have e3 : eFn 2 g__law_rounds (aCons (eVar 0) (aCons (eC (.int 4)) aNil)) (startE 6 [.scr ns]) [] = .ok (.lst ((List.range' 0 γ1.length).map D.cell)) γ1 := fn_ok (ds := [.scr ns, .int 4]) (acons_ok rfl (acons_ok rfl rfl)) rfl e1
  have e4 : lAny (eFn 2 g__law_rounds (aCons (eVar 0) (aCons (eC (.int 4)) aNil))) (startE 6 [.scr ns]) [] = .ok ((List.range' 0 γ1.length).map D.cell) γ1 := by
    unfold lAny byD
    rw [e3]
    simp only [lLst, e3, Res.bind_ok]
    first | rfl | (simp [e3])
  have e5 : q13 (startE 6 [.scr ns]) [] = .nx ρ' γ' := by
    rw [q13]
    simp only [sFor, e4, toOut_ok]
    exact e2
  show bodyR (fb_law (startE 6 [.scr ns]) []) = _
  rw [fb_law, sSeq_ok e5]
  rfl
end K13

set_option maxHeartbeats 0
namespace K13
open PySem PySem.Spec PyProof.Rows L2 DL
def d__law_cell : He.DefD := ⟨("_law_cell", none), "_law_cell", "_law_cell", defArgs s__law_cell, defBody s__law_cell, defScope s__law_cell, [], []⟩
def d__law_rounds : He.DefD := ⟨("_law_rounds", none), "_law_rounds", "_law_rounds", defArgs s__law_rounds, defBody s__law_rounds, defScope s__law_rounds, [], []⟩
def d__law_drawn : He.DefD := ⟨("_law_drawn", none), "_law_drawn", "_law_drawn", defArgs s__law_drawn, defBody s__law_drawn, defScope s__law_drawn, [], []⟩
def d__law_roll : He.DefD := ⟨("_law_roll", none), "_law_roll", "_law_roll", defArgs s__law_roll, defBody s__law_roll, defScope s__law_roll, [], []⟩
def d__law_met : He.DefD := ⟨("_law_met", none), "_law_met", "_law_met", defArgs s__law_met, defBody s__law_met, defScope s__law_met, [], []⟩
def d_is_whole : He.DefD := ⟨("is_whole", none), "is_whole", "is_whole", defArgs s_is_whole, defBody s_is_whole, defScope s_is_whole, [], []⟩
def d_is_word : He.DefD := ⟨("is_word", none), "is_word", "is_word", defArgs s_is_word, defBody s_is_word, defScope s_is_word, [], []⟩
def d_is_program : He.DefD := ⟨("is_program", none), "is_program", "is_program", defArgs s_is_program, defBody s_is_program, defScope s_is_program, [], []⟩
def d_need_program : He.DefD := ⟨("need_program", none), "need_program", "need_program", defArgs s_need_program, defBody s_need_program, defScope s_need_program, [], []⟩
def d_written : He.DefD := ⟨("written", none), "written", "written", defArgs s_written, defBody s_written, defScope s_written, [], []⟩
def d_Work_told : He.DefD := ⟨("Work", some "told"), "told", "Work.told", defArgs s_Work_told, defBody s_Work_told, defScope s_Work_told, [], []⟩
def d_Work___init__ : He.DefD := ⟨("Work", some "__init__"), "__init__", "Work.__init__", defArgs s_Work___init__, defBody s_Work___init__, defScope s_Work___init__, [], []⟩
def d_needed : He.DefD := ⟨("needed", none), "needed", "needed", defArgs s_needed, defBody s_needed, defScope s_needed, [], []⟩
def d_laid : He.DefD := ⟨("laid", none), "laid", "laid", defArgs s_laid, defBody s_laid, defScope s_laid, [], []⟩
def d_cleaned : He.DefD := ⟨("cleaned", none), "cleaned", "cleaned", defArgs s_cleaned, defBody s_cleaned, defScope s_cleaned, [], []⟩
def d_checked : He.DefD := ⟨("checked", none), "checked", "checked", defArgs s_checked, defBody s_checked, defScope s_checked, [], []⟩
def d_added : He.DefD := ⟨("added", none), "added", "added", defArgs s_added, defBody s_added, defScope s_added, [], []⟩
def d_constant : He.DefD := ⟨("constant", none), "constant", "constant", defArgs s_constant, defBody s_constant, defScope s_constant, [], []⟩
def d_joint : He.DefD := ⟨("joint", none), "joint", "joint", defArgs s_joint, defBody s_joint, defScope s_joint, [], []⟩
def d_product : He.DefD := ⟨("product", none), "product", "product", defArgs s_product, defBody s_product, defScope s_product, [], []⟩
def d_led : He.DefD := ⟨("led", none), "led", "led", defArgs s_led, defBody s_led, defScope s_led, [], []⟩
def d_unknown : He.DefD := ⟨("unknown", none), "unknown", "unknown", defArgs s_unknown, defBody s_unknown, defScope s_unknown, [], []⟩
def d_Work_behind : He.DefD := ⟨("Work", some "behind"), "behind", "Work.behind", defArgs s_Work_behind, defBody s_Work_behind, defScope s_Work_behind, [], []⟩
def d_work_of : He.DefD := ⟨("work_of", none), "work_of", "work_of", defArgs s_work_of, defBody s_work_of, defScope s_work_of, [], []⟩
def d_form : He.DefD := ⟨("form", none), "form", "form", defArgs s_form, defBody s_form, defScope s_form, [], []⟩
def d_is_stack : He.DefD := ⟨("is_stack", none), "is_stack", "is_stack", defArgs s_is_stack, defBody s_is_stack, defScope s_is_stack, [], []⟩
def d_need_stack : He.DefD := ⟨("need_stack", none), "need_stack", "need_stack", defArgs s_need_stack, defBody s_need_stack, defScope s_need_stack, [], []⟩
def d_worked : He.DefD := ⟨("worked", none), "worked", "worked", defArgs s_worked, defBody s_worked, defScope s_worked, [], []⟩
def d_trace_of : He.DefD := ⟨("trace_of", none), "trace_of", "trace_of", defArgs s_trace_of, defBody s_trace_of, defScope s_trace_of, [], []⟩
def d_run : He.DefD := ⟨("run", none), "run", "run", defArgs s_run, defBody s_run, defScope s_run, [], []⟩
def d_is_name : He.DefD := ⟨("is_name", none), "is_name", "is_name", defArgs s_is_name, defBody s_is_name, defScope s_is_name, [], []⟩
def d_is_book : He.DefD := ⟨("is_book", none), "is_book", "is_book", defArgs s_is_book, defBody s_is_book, defScope s_is_book, [], []⟩
def d_need_book : He.DefD := ⟨("need_book", none), "need_book", "need_book", defArgs s_need_book, defBody s_need_book, defScope s_need_book, [], []⟩
def d_uses : He.DefD := ⟨("uses", none), "uses", "uses", defArgs s_uses, defBody s_uses, defScope s_uses, [], []⟩
def d_need_most : He.DefD := ⟨("need_most", none), "need_most", "need_most", defArgs s_need_most, defBody s_need_most, defScope s_need_most, [], []⟩
def d_count_shuffles : He.DefD := ⟨("count_shuffles", none), "count_shuffles", "count_shuffles", defArgs s_count_shuffles, defBody s_count_shuffles, defScope s_count_shuffles, [], []⟩
def d_is_shuffle_row : He.DefD := ⟨("is_shuffle_row", none), "is_shuffle_row", "is_shuffle_row", defArgs s_is_shuffle_row, defBody s_is_shuffle_row, defScope s_is_shuffle_row, [], []⟩
def d_shuffle_words : He.DefD := ⟨("shuffle_words", none), "shuffle_words", "shuffle_words", defArgs s_shuffle_words, defBody s_shuffle_words, defScope s_shuffle_words, [], []⟩
def d_written_program : He.DefD := ⟨("written_program", none), "written_program", "written_program", defArgs s_written_program, defBody s_written_program, defScope s_written_program, [], []⟩
def d_word_of : He.DefD := ⟨("word_of", none), "word_of", "word_of", defArgs s_word_of, defBody s_word_of, defScope s_word_of, [], []⟩
def d_parse_program : He.DefD := ⟨("parse_program", none), "parse_program", "parse_program", defArgs s_parse_program, defBody s_parse_program, defScope s_parse_program, [], []⟩
def d_left_out : He.DefD := ⟨("left_out", none), "left_out", "left_out", defArgs s_left_out, defBody s_left_out, defScope s_left_out, [], []⟩
def d_Desk_redo : He.DefD := ⟨("Desk", some "redo"), "redo", "Desk.redo", defArgs s_Desk_redo, defBody s_Desk_redo, defScope s_Desk_redo, [], []⟩
def d__law_alone : He.DefD := ⟨("_law_alone", none), "_law_alone", "_law_alone", defArgs s__law_alone, defBody s__law_alone, defScope s__law_alone, [], []⟩
def d_Desk___init__ : He.DefD := ⟨("Desk", some "__init__"), "__init__", "Desk.__init__", defArgs s_Desk___init__, defBody s_Desk___init__, defScope s_Desk___init__, [], []⟩
def d_law : He.DefD := ⟨("law", none), "law", "law", defArgs s_law, defBody s_law, defScope s_law, [], []⟩
def fn : List He.DefD := [d__law_cell, d__law_rounds, d__law_drawn, d__law_roll, d__law_met, d_is_whole, d_is_word, d_is_program, d_need_program, d_written, d_Work_told, d_Work___init__, d_needed, d_laid, d_cleaned, d_checked, d_added, d_constant, d_joint, d_product, d_led, d_unknown, d_Work_behind, d_work_of, d_form, d_is_stack, d_need_stack, d_worked, d_trace_of, d_run, d_is_name, d_is_book, d_need_book, d_uses, d_need_most, d_count_shuffles, d_is_shuffle_row, d_shuffle_words, d_written_program, d_word_of, d_parse_program, d_left_out, d_Desk_redo, d__law_alone, d_Desk___init__, d_law]
def fa : List He.Fa := [.free "ValueError", .free "abs", .free "all", .free "any", .free "bool", .free "dict", .free "enumerate", .free "int", .free "isinstance", .free "len", .free "list", .free "max", .free "min", .free "range", .free "sorted", .free "str", .free "sum", .free "tuple", .glo "_law_alone", .keep "_law_alone", .glo "_law_cell", .keep "_law_cell", .glo "_law_drawn", .keep "_law_drawn", .glo "_law_met", .keep "_law_met", .glo "_law_roll", .keep "_law_roll", .glo "_law_rounds", .keep "_law_rounds", .glo "added", .keep "added", .glo "checked", .keep "checked", .glo "cleaned", .keep "cleaned", .glo "constant", .keep "constant", .glo "count_shuffles", .keep "count_shuffles", .glo "form", .keep "form", .glo "is_book", .keep "is_book", .glo "is_name", .keep "is_name", .glo "is_program", .keep "is_program", .glo "is_shuffle_row", .keep "is_shuffle_row", .glo "is_stack", .keep "is_stack", .glo "is_whole", .keep "is_whole", .glo "is_word", .keep "is_word", .glo "joint", .keep "joint", .glo "laid", .keep "laid", .glo "led", .keep "led", .glo "left_out", .keep "left_out", .glo "need_book", .keep "need_book", .glo "need_most", .keep "need_most", .glo "need_program", .keep "need_program", .glo "need_stack", .keep "need_stack", .glo "needed", .keep "needed", .glo "parse_program", .keep "parse_program", .glo "product", .keep "product", .glo "run", .keep "run", .glo "shuffle_words", .keep "shuffle_words", .glo "trace_of", .keep "trace_of", .glo "unknown", .keep "unknown", .glo "uses", .keep "uses", .glo "word_of", .keep "word_of", .glo "work_of", .keep "work_of", .glo "worked", .keep "worked", .glo "written", .keep "written", .glo "written_program", .keep "written_program", .int "MOST_DEGREE" 16, .int "MOST_DEPTH" 100, .int "MOST_NAMES" 6, .int "MOST_NUMBER_polynomials" 1000000000000000000000000000000000000000000000000000000000000, .int "MOST_NUMBER_programs" 1000000000000000000000000000000000000000000000000000000000000, .int "MOST_SHUFFLE" 6, .int "MOST_TERMS" 200, .int "MOST_WORDS" 60, .glo "SHUFFLES", .glo "WORDS", .glo "NEEDS", .glo "InvalidBook", .exc "InvalidBook", .glo "InvalidNumber", .exc "InvalidNumber", .glo "InvalidPlace", .exc "InvalidPlace", .glo "InvalidProgram", .exc "InvalidProgram", .glo "InvalidShuffle", .exc "InvalidShuffle", .glo "InvalidStack", .exc "InvalidStack", .glo "InvalidText", .exc "InvalidText", .glo "NothingToUndo", .exc "NothingToUndo", .glo "StackError", .exc "StackError", .glo "TooFew", .exc "TooFew", .glo "TooMany", .exc "TooMany", .glo "Desk", .cls "Desk", .mkr "Desk", .noat "Desk" "rows", .noat "Desk" "undone", .glo "Work", .cls "Work", .mkr "Work", .noat "Work" "need", .noat "Work" "rows", .meth "Desk" "redo", .meth "Work" "behind", .meth "Work" "told", .glo "law"]
def ts : List He.Tab := [(fun K => He.ga K "NEEDS", ["dup", "drop", "swap", "over", "rot", "nip", "tuck", "add", "sub", "mul", "neg"])]
def ex (K : PySem.W.Frag) : Bool := tupB K (He.ga K "SHUFFLES") t_SHUFFLES && (tupB K (He.ga K "WORDS") t_WORDS && (He.valsB K (He.ga K "NEEDS") (tab_NEEDS.map fun q => (q.1, He.Dv.int q.2)) && (termB K (fun c => He.ga K (excN c)) okl (He.ga K "StackError"))))
def loose0 : List Str := ["_wall", "__name__", "StackError", "InvalidProgram", "InvalidStack", "InvalidBook", "InvalidNumber", "InvalidShuffle", "InvalidText", "InvalidPlace", "TooFew", "TooMany", "NothingToUndo", "MOST_DEGREE", "MOST_TERMS", "MOST_NUMBER_polynomials", "constant", "unknown", "cleaned", "added", "joint", "product", "checked", "depths_in", "written", "SHUFFLES", "WORDS", "NEEDS", "MOST_WORDS", "MOST_DEPTH"]
def loose1 : List Str := ["MOST_NUMBER_programs", "is_whole", "is_word", "is_program", "need_program", "is_stack", "need_stack", "needed", "laid", "worked", "trace_of", "run", "Work", "stands_in", "led", "work_of", "form", "LETTERS", "MOST_NAMES", "MOST_OWN", "is_name", "is_row", "is_book", "need_book", "uses", "Desk", "without", "left_out", "MOST_SHUFFLE", "is_shuffle_row"]
def loose2 : List Str := ["searched", "grown", "behind_or_none", "need_most", "shuffle_words", "count_shuffles", "written_program", "word_of", "parse_program", "_law_cell", "_law_drawn", "_law_roll", "_law_rounds", "_law_met", "_law_alone"]
def loose : List Str := loose0 ++ loose1 ++ loose2
abbrev R : PySem.W.OpenRow := PySem.W.OpenLaw.row PySem.Challenge.rw_stackforms_k13_errors_apart
abbrev tf : List He.Defn := [("law", none)]
abbrev hk : PySem.W.Hook := He.hookX 4 fa fn ts tf ex
theorem facts {w : World} {K : PySem.W.Frag} {h h0 : Heap} {mg : Str → Option Value} (X : K.In h) (G : h.Ns mainGlobals mg) (c : He.SaysX fa fn ts tf ex w h0 K) : Fc K w mg := by
  have d := c.t.d
  have m := c.more
  obtain ⟨m_0, m⟩ := He.ba m
  obtain ⟨m_1, m⟩ := He.ba m
  obtain ⟨m_2, m⟩ := He.ba m
  have m_3 := m
  exact {
    b_ValueError := He.free_ok X G (d.fact 0 (f := .free "ValueError") rfl)
    b_abs := He.free_ok X G (d.fact 1 (f := .free "abs") rfl)
    b_all := He.free_ok X G (d.fact 2 (f := .free "all") rfl)
    b_any := He.free_ok X G (d.fact 3 (f := .free "any") rfl)
    b_bool := He.free_ok X G (d.fact 4 (f := .free "bool") rfl)
    b_dict := He.free_ok X G (d.fact 5 (f := .free "dict") rfl)
    b_enumerate := He.free_ok X G (d.fact 6 (f := .free "enumerate") rfl)
    b_int := He.free_ok X G (d.fact 7 (f := .free "int") rfl)
    b_isinstance := He.free_ok X G (d.fact 8 (f := .free "isinstance") rfl)
    b_len := He.free_ok X G (d.fact 9 (f := .free "len") rfl)
    b_list := He.free_ok X G (d.fact 10 (f := .free "list") rfl)
    b_max := He.free_ok X G (d.fact 11 (f := .free "max") rfl)
    b_min := He.free_ok X G (d.fact 12 (f := .free "min") rfl)
    b_range := He.free_ok X G (d.fact 13 (f := .free "range") rfl)
    b_sorted := He.free_ok X G (d.fact 14 (f := .free "sorted") rfl)
    b_str := He.free_ok X G (d.fact 15 (f := .free "str") rfl)
    b_sum := He.free_ok X G (d.fact 16 (f := .free "sum") rfl)
    b_tuple := He.free_ok X G (d.fact 17 (f := .free "tuple") rfl)
    g__law_alone := He.glo_ok X G (d.fact 18 (f := .glo "_law_alone") rfl)
    k__law_alone := He.keep_ok (d.fact 19 (f := .keep "_law_alone") rfl)
    g__law_cell := He.glo_ok X G (d.fact 20 (f := .glo "_law_cell") rfl)
    k__law_cell := He.keep_ok (d.fact 21 (f := .keep "_law_cell") rfl)
    g__law_drawn := He.glo_ok X G (d.fact 22 (f := .glo "_law_drawn") rfl)
    k__law_drawn := He.keep_ok (d.fact 23 (f := .keep "_law_drawn") rfl)
    g__law_met := He.glo_ok X G (d.fact 24 (f := .glo "_law_met") rfl)
    k__law_met := He.keep_ok (d.fact 25 (f := .keep "_law_met") rfl)
    g__law_roll := He.glo_ok X G (d.fact 26 (f := .glo "_law_roll") rfl)
    k__law_roll := He.keep_ok (d.fact 27 (f := .keep "_law_roll") rfl)
    g__law_rounds := He.glo_ok X G (d.fact 28 (f := .glo "_law_rounds") rfl)
    k__law_rounds := He.keep_ok (d.fact 29 (f := .keep "_law_rounds") rfl)
    g_added := He.glo_ok X G (d.fact 30 (f := .glo "added") rfl)
    k_added := He.keep_ok (d.fact 31 (f := .keep "added") rfl)
    g_checked := He.glo_ok X G (d.fact 32 (f := .glo "checked") rfl)
    k_checked := He.keep_ok (d.fact 33 (f := .keep "checked") rfl)
    g_cleaned := He.glo_ok X G (d.fact 34 (f := .glo "cleaned") rfl)
    k_cleaned := He.keep_ok (d.fact 35 (f := .keep "cleaned") rfl)
    g_constant := He.glo_ok X G (d.fact 36 (f := .glo "constant") rfl)
    k_constant := He.keep_ok (d.fact 37 (f := .keep "constant") rfl)
    g_count_shuffles := He.glo_ok X G (d.fact 38 (f := .glo "count_shuffles") rfl)
    k_count_shuffles := He.keep_ok (d.fact 39 (f := .keep "count_shuffles") rfl)
    g_form := He.glo_ok X G (d.fact 40 (f := .glo "form") rfl)
    k_form := He.keep_ok (d.fact 41 (f := .keep "form") rfl)
    g_is_book := He.glo_ok X G (d.fact 42 (f := .glo "is_book") rfl)
    k_is_book := He.keep_ok (d.fact 43 (f := .keep "is_book") rfl)
    g_is_name := He.glo_ok X G (d.fact 44 (f := .glo "is_name") rfl)
    k_is_name := He.keep_ok (d.fact 45 (f := .keep "is_name") rfl)
    g_is_program := He.glo_ok X G (d.fact 46 (f := .glo "is_program") rfl)
    k_is_program := He.keep_ok (d.fact 47 (f := .keep "is_program") rfl)
    g_is_shuffle_row := He.glo_ok X G (d.fact 48 (f := .glo "is_shuffle_row") rfl)
    k_is_shuffle_row := He.keep_ok (d.fact 49 (f := .keep "is_shuffle_row") rfl)
    g_is_stack := He.glo_ok X G (d.fact 50 (f := .glo "is_stack") rfl)
    k_is_stack := He.keep_ok (d.fact 51 (f := .keep "is_stack") rfl)
    g_is_whole := He.glo_ok X G (d.fact 52 (f := .glo "is_whole") rfl)
    k_is_whole := He.keep_ok (d.fact 53 (f := .keep "is_whole") rfl)
    g_is_word := He.glo_ok X G (d.fact 54 (f := .glo "is_word") rfl)
    k_is_word := He.keep_ok (d.fact 55 (f := .keep "is_word") rfl)
    g_joint := He.glo_ok X G (d.fact 56 (f := .glo "joint") rfl)
    k_joint := He.keep_ok (d.fact 57 (f := .keep "joint") rfl)
    g_laid := He.glo_ok X G (d.fact 58 (f := .glo "laid") rfl)
    k_laid := He.keep_ok (d.fact 59 (f := .keep "laid") rfl)
    g_led := He.glo_ok X G (d.fact 60 (f := .glo "led") rfl)
    k_led := He.keep_ok (d.fact 61 (f := .keep "led") rfl)
    g_left_out := He.glo_ok X G (d.fact 62 (f := .glo "left_out") rfl)
    k_left_out := He.keep_ok (d.fact 63 (f := .keep "left_out") rfl)
    g_need_book := He.glo_ok X G (d.fact 64 (f := .glo "need_book") rfl)
    k_need_book := He.keep_ok (d.fact 65 (f := .keep "need_book") rfl)
    g_need_most := He.glo_ok X G (d.fact 66 (f := .glo "need_most") rfl)
    k_need_most := He.keep_ok (d.fact 67 (f := .keep "need_most") rfl)
    g_need_program := He.glo_ok X G (d.fact 68 (f := .glo "need_program") rfl)
    k_need_program := He.keep_ok (d.fact 69 (f := .keep "need_program") rfl)
    g_need_stack := He.glo_ok X G (d.fact 70 (f := .glo "need_stack") rfl)
    k_need_stack := He.keep_ok (d.fact 71 (f := .keep "need_stack") rfl)
    g_needed := He.glo_ok X G (d.fact 72 (f := .glo "needed") rfl)
    k_needed := He.keep_ok (d.fact 73 (f := .keep "needed") rfl)
    g_parse_program := He.glo_ok X G (d.fact 74 (f := .glo "parse_program") rfl)
    k_parse_program := He.keep_ok (d.fact 75 (f := .keep "parse_program") rfl)
    g_product := He.glo_ok X G (d.fact 76 (f := .glo "product") rfl)
    k_product := He.keep_ok (d.fact 77 (f := .keep "product") rfl)
    g_run := He.glo_ok X G (d.fact 78 (f := .glo "run") rfl)
    k_run := He.keep_ok (d.fact 79 (f := .keep "run") rfl)
    g_shuffle_words := He.glo_ok X G (d.fact 80 (f := .glo "shuffle_words") rfl)
    k_shuffle_words := He.keep_ok (d.fact 81 (f := .keep "shuffle_words") rfl)
    g_trace_of := He.glo_ok X G (d.fact 82 (f := .glo "trace_of") rfl)
    k_trace_of := He.keep_ok (d.fact 83 (f := .keep "trace_of") rfl)
    g_unknown := He.glo_ok X G (d.fact 84 (f := .glo "unknown") rfl)
    k_unknown := He.keep_ok (d.fact 85 (f := .keep "unknown") rfl)
    g_uses := He.glo_ok X G (d.fact 86 (f := .glo "uses") rfl)
    k_uses := He.keep_ok (d.fact 87 (f := .keep "uses") rfl)
    g_word_of := He.glo_ok X G (d.fact 88 (f := .glo "word_of") rfl)
    k_word_of := He.keep_ok (d.fact 89 (f := .keep "word_of") rfl)
    g_work_of := He.glo_ok X G (d.fact 90 (f := .glo "work_of") rfl)
    k_work_of := He.keep_ok (d.fact 91 (f := .keep "work_of") rfl)
    g_worked := He.glo_ok X G (d.fact 92 (f := .glo "worked") rfl)
    k_worked := He.keep_ok (d.fact 93 (f := .keep "worked") rfl)
    g_written := He.glo_ok X G (d.fact 94 (f := .glo "written") rfl)
    k_written := He.keep_ok (d.fact 95 (f := .keep "written") rfl)
    g_written_program := He.glo_ok X G (d.fact 96 (f := .glo "written_program") rfl)
    k_written_program := He.keep_ok (d.fact 97 (f := .keep "written_program") rfl)
    i_MOST_DEGREE := He.int_ok X G (d.fact 98 (f := .int "MOST_DEGREE" 16) rfl)
    i_MOST_DEPTH := He.int_ok X G (d.fact 99 (f := .int "MOST_DEPTH" 100) rfl)
    i_MOST_NAMES := He.int_ok X G (d.fact 100 (f := .int "MOST_NAMES" 6) rfl)
    i_MOST_NUMBER_polynomials := He.int_ok X G (d.fact 101 (f := .int "MOST_NUMBER_polynomials" 1000000000000000000000000000000000000000000000000000000000000) rfl)
    i_MOST_NUMBER_programs := He.int_ok X G (d.fact 102 (f := .int "MOST_NUMBER_programs" 1000000000000000000000000000000000000000000000000000000000000) rfl)
    i_MOST_SHUFFLE := He.int_ok X G (d.fact 103 (f := .int "MOST_SHUFFLE" 6) rfl)
    i_MOST_TERMS := He.int_ok X G (d.fact 104 (f := .int "MOST_TERMS" 200) rfl)
    i_MOST_WORDS := He.int_ok X G (d.fact 105 (f := .int "MOST_WORDS" 60) rfl)
    a_SHUFFLES := He.glo_ok X G (d.fact 106 (f := .glo "SHUFFLES") rfl)
    t_SHUFFLES := tupB_ok m_0
    a_WORDS := He.glo_ok X G (d.fact 107 (f := .glo "WORDS") rfl)
    t_WORDS := tupB_ok m_1
    a_NEEDS := He.glo_ok X G (d.fact 108 (f := .glo "NEEDS") rfl)
    tab_NEEDS := tab_ok (c.t.tab 0 rfl) m_2
    g_InvalidBook := He.glo_ok X G (d.fact 109 (f := .glo "InvalidBook") rfl)
    e_InvalidBook := exc_of (d.fact 110 (f := .exc "InvalidBook") rfl)
    g_InvalidNumber := He.glo_ok X G (d.fact 111 (f := .glo "InvalidNumber") rfl)
    e_InvalidNumber := exc_of (d.fact 112 (f := .exc "InvalidNumber") rfl)
    g_InvalidPlace := He.glo_ok X G (d.fact 113 (f := .glo "InvalidPlace") rfl)
    e_InvalidPlace := exc_of (d.fact 114 (f := .exc "InvalidPlace") rfl)
    g_InvalidProgram := He.glo_ok X G (d.fact 115 (f := .glo "InvalidProgram") rfl)
    e_InvalidProgram := exc_of (d.fact 116 (f := .exc "InvalidProgram") rfl)
    g_InvalidShuffle := He.glo_ok X G (d.fact 117 (f := .glo "InvalidShuffle") rfl)
    e_InvalidShuffle := exc_of (d.fact 118 (f := .exc "InvalidShuffle") rfl)
    g_InvalidStack := He.glo_ok X G (d.fact 119 (f := .glo "InvalidStack") rfl)
    e_InvalidStack := exc_of (d.fact 120 (f := .exc "InvalidStack") rfl)
    g_InvalidText := He.glo_ok X G (d.fact 121 (f := .glo "InvalidText") rfl)
    e_InvalidText := exc_of (d.fact 122 (f := .exc "InvalidText") rfl)
    g_NothingToUndo := He.glo_ok X G (d.fact 123 (f := .glo "NothingToUndo") rfl)
    e_NothingToUndo := exc_of (d.fact 124 (f := .exc "NothingToUndo") rfl)
    g_StackError := He.glo_ok X G (d.fact 125 (f := .glo "StackError") rfl)
    e_StackError := exc_of (d.fact 126 (f := .exc "StackError") rfl)
    g_TooFew := He.glo_ok X G (d.fact 127 (f := .glo "TooFew") rfl)
    e_TooFew := exc_of (d.fact 128 (f := .exc "TooFew") rfl)
    g_TooMany := He.glo_ok X G (d.fact 129 (f := .glo "TooMany") rfl)
    e_TooMany := exc_of (d.fact 130 (f := .exc "TooMany") rfl)
    g_Desk := He.glo_ok X G (d.fact 131 (f := .glo "Desk") rfl)
    cl_Desk := He.cls_ok (d.fact 132 (f := .cls "Desk") rfl)
    mk_Desk := He.mkr_ok (d.fact 133 (f := .mkr "Desk") rfl)
    na_Desk_rows := He.noat_ok (d.fact 134 (f := .noat "Desk" "rows") rfl)
    na_Desk_undone := He.noat_ok (d.fact 135 (f := .noat "Desk" "undone") rfl)
    g_Work := He.glo_ok X G (d.fact 136 (f := .glo "Work") rfl)
    cl_Work := He.cls_ok (d.fact 137 (f := .cls "Work") rfl)
    mk_Work := He.mkr_ok (d.fact 138 (f := .mkr "Work") rfl)
    na_Work_need := He.noat_ok (d.fact 139 (f := .noat "Work" "need") rfl)
    na_Work_rows := He.noat_ok (d.fact 140 (f := .noat "Work" "rows") rfl)
    m_Desk_redo := He.meth_ok (d.fact 141 (f := .meth "Desk" "redo") rfl)
    m_Work_behind := He.meth_ok (d.fact 142 (f := .meth "Work" "behind") rfl)
    m_Work_told := He.meth_ok (d.fact 143 (f := .meth "Work" "told") rfl) }
theorem factsT {w : World} {K : PySem.W.Frag} {h0 : Heap} (c : He.SaysX fa fn ts tf ex w h0 K) : TermF K (fun c => He.ga K (excN c)) okl (He.ga K "StackError") := by
  have m := c.more
  obtain ⟨m_0, m⟩ := He.ba m
  obtain ⟨m_1, m⟩ := He.ba m
  obtain ⟨m_2, m⟩ := He.ba m
  exact termB_ok m
theorem law_ok {P : Program} {w : World} {K : PySem.W.Frag} {h h0 : Heap} {mg : Str → Option Value} {f : Addr} (X : K.In h) (G : h.Ns mainGlobals mg) (hf : mg "law" = some (.ref f)) (s : He.SaysX fa fn ts tf ex w h0 K) : ∃ fd : FuncData, (∀ (s : Shared) (v : Value), BindsTo s fd ⟨[v], []⟩ [("script", v)]) ∧ ∀ base : Heap, LamX.TabB base mg (He.cT K ("law", none)).1 (He.cT K ("law", none)).2 → FnOk P w K mg base (L2N.CX P w) 10 f fd ["script"] (spM (CT P w K) 1 g_law) := by
  have c := facts X G s
  have e := hf.symm.trans (He.glo_ok X G (s.t.d.fact 144 (f := .glo "law") rfl))
  cases e
  obtain ⟨fd_law, F_law⟩ := s.t.d.def_ 45 (d := d_law) rfl
  have b := FunD.bindsA (ps := ["script"]) F_law fun _ _ _ _ _ _ us hl => match us, hl with | [_], _ => rfl
  refine ⟨fd_law, fun s v => b s [v] rfl, fun base TB_law => ?_⟩
  have t := factsT s
  obtain ⟨fd__law_cell, F__law_cell⟩ := s.t.d.def_ 0 (d := d__law_cell) rfl
  have o__law_cell := ok__law_cell (P := P) (base := base) c  F__law_cell
  obtain ⟨fd__law_rounds, F__law_rounds⟩ := s.t.d.def_ 1 (d := d__law_rounds) rfl
  have o__law_rounds := ok__law_rounds (P := P) (base := base) c o__law_cell F__law_rounds
  obtain ⟨fd__law_drawn, F__law_drawn⟩ := s.t.d.def_ 2 (d := d__law_drawn) rfl
  have o__law_drawn := ok__law_drawn (P := P) (base := base) c  F__law_drawn
  obtain ⟨fd__law_roll, F__law_roll⟩ := s.t.d.def_ 3 (d := d__law_roll) rfl
  have o__law_roll := ok__law_roll (P := P) (base := base) c o__law_drawn F__law_roll
  obtain ⟨fd__law_met, F__law_met⟩ := s.t.d.def_ 4 (d := d__law_met) rfl
  have o__law_met := ok__law_met (P := P) (base := base) c t  F__law_met
  obtain ⟨fd_is_whole, F_is_whole⟩ := s.t.d.def_ 5 (d := d_is_whole) rfl
  have o_is_whole := ok_is_whole (P := P) (base := base) c  F_is_whole
  obtain ⟨fd_is_word, F_is_word⟩ := s.t.d.def_ 6 (d := d_is_word) rfl
  have o_is_word := ok_is_word (P := P) (base := base) c o_is_whole F_is_word
  obtain ⟨fd_is_program, F_is_program⟩ := s.t.d.def_ 7 (d := d_is_program) rfl
  have o_is_program := ok_is_program (P := P) (base := base) c o_is_word F_is_program
  obtain ⟨fd_need_program, F_need_program⟩ := s.t.d.def_ 8 (d := d_need_program) rfl
  have o_need_program := ok_need_program (P := P) (base := base) c o_is_program F_need_program
  obtain ⟨fd_written, F_written⟩ := s.t.d.def_ 9 (d := d_written) rfl
  have o_written := ok_written (P := P) (base := base) c  F_written
  obtain ⟨fd_Work_told, F_Work_told⟩ := s.t.d.def_ 10 (d := d_Work_told) rfl
  have o_Work_told := ok_Work_told (P := P) (base := base) c o_written F_Work_told
  obtain ⟨fd_Work___init__, F_Work___init__⟩ := s.t.d.def_ 11 (d := d_Work___init__) rfl
  have o_Work___init__ := ok_Work___init__ (P := P) (base := base) c  F_Work___init__
  obtain ⟨fd_needed, F_needed⟩ := s.t.d.def_ 12 (d := d_needed) rfl
  have o_needed := ok_needed (P := P) (base := base) c  F_needed
  obtain ⟨fd_laid, F_laid⟩ := s.t.d.def_ 13 (d := d_laid) rfl
  have o_laid := ok_laid (P := P) (base := base) c  F_laid
  obtain ⟨fd_cleaned, F_cleaned⟩ := s.t.d.def_ 14 (d := d_cleaned) rfl
  have o_cleaned := ok_cleaned (P := P) (base := base) c  F_cleaned
  obtain ⟨fd_checked, F_checked⟩ := s.t.d.def_ 15 (d := d_checked) rfl
  have o_checked := ok_checked (P := P) (base := base) c o_cleaned F_checked
  obtain ⟨fd_added, F_added⟩ := s.t.d.def_ 16 (d := d_added) rfl
  have o_added := ok_added (P := P) (base := base) c o_checked F_added
  obtain ⟨fd_constant, F_constant⟩ := s.t.d.def_ 17 (d := d_constant) rfl
  have o_constant := ok_constant (P := P) (base := base) c  F_constant
  obtain ⟨fd_joint, F_joint⟩ := s.t.d.def_ 18 (d := d_joint) rfl
  have o_joint := ok_joint (P := P) (base := base) c  F_joint
  obtain ⟨fd_product, F_product⟩ := s.t.d.def_ 19 (d := d_product) rfl
  have o_product := ok_product (P := P) (base := base) c o_checked o_joint F_product
  obtain ⟨fd_led, F_led⟩ := s.t.d.def_ 20 (d := d_led) rfl
  have o_led := ok_led (P := P) (base := base) c o_added o_constant o_laid o_product F_led
  obtain ⟨fd_unknown, F_unknown⟩ := s.t.d.def_ 21 (d := d_unknown) rfl
  have o_unknown := ok_unknown (P := P) (base := base) c  F_unknown
  obtain ⟨fd_Work_behind, F_Work_behind⟩ := s.t.d.def_ 22 (d := d_Work_behind) rfl
  have o_Work_behind := ok_Work_behind (P := P) (base := base) c o_Work___init__ o_led o_needed o_unknown F_Work_behind
  obtain ⟨fd_work_of, F_work_of⟩ := s.t.d.def_ 23 (d := d_work_of) rfl
  have o_work_of := ok_work_of (P := P) (base := base) c o_Work___init__ o_Work_behind F_work_of
  obtain ⟨fd_form, F_form⟩ := s.t.d.def_ 24 (d := d_form) rfl
  have o_form := ok_form (P := P) (base := base) c o_Work_told o_need_program o_work_of F_form
  obtain ⟨fd_is_stack, F_is_stack⟩ := s.t.d.def_ 25 (d := d_is_stack) rfl
  have o_is_stack := ok_is_stack (P := P) (base := base) c o_is_whole F_is_stack
  obtain ⟨fd_need_stack, F_need_stack⟩ := s.t.d.def_ 26 (d := d_need_stack) rfl
  have o_need_stack := ok_need_stack (P := P) (base := base) c o_is_stack F_need_stack
  obtain ⟨fd_worked, F_worked⟩ := s.t.d.def_ 27 (d := d_worked) rfl
  have o_worked := ok_worked (P := P) (base := base) c o_laid F_worked
  obtain ⟨fd_trace_of, F_trace_of⟩ := s.t.d.def_ 28 (d := d_trace_of) rfl
  have o_trace_of := ok_trace_of (P := P) (base := base) c o_needed o_worked F_trace_of
  obtain ⟨fd_run, F_run⟩ := s.t.d.def_ 29 (d := d_run) rfl
  have o_run := ok_run (P := P) (base := base) c o_need_program o_need_stack o_trace_of F_run
  obtain ⟨fd_is_name, F_is_name⟩ := s.t.d.def_ 30 (d := d_is_name) rfl
  have o_is_name := ok_is_name (P := P) (base := base) c  F_is_name
  obtain ⟨fd_is_book, F_is_book⟩ := s.t.d.def_ 31 (d := d_is_book) rfl
  have o_is_book := ok_is_book (P := P) (base := base) c o_is_name F_is_book
  obtain ⟨fd_need_book, F_need_book⟩ := s.t.d.def_ 32 (d := d_need_book) rfl
  have o_need_book := ok_need_book (P := P) (base := base) c o_is_book F_need_book
  obtain ⟨fd_uses, F_uses⟩ := s.t.d.def_ 33 (d := d_uses) rfl
  have o_uses := ok_uses (P := P) (base := base) c o_need_book F_uses
  obtain ⟨fd_need_most, F_need_most⟩ := s.t.d.def_ 34 (d := d_need_most) rfl
  have o_need_most := ok_need_most (P := P) (base := base) c o_is_whole F_need_most
  obtain ⟨fd_count_shuffles, F_count_shuffles⟩ := s.t.d.def_ 35 (d := d_count_shuffles) rfl
  have o_count_shuffles := ok_count_shuffles (P := P) (base := base) c o_need_most F_count_shuffles
  obtain ⟨fd_is_shuffle_row, F_is_shuffle_row⟩ := s.t.d.def_ 36 (d := d_is_shuffle_row) rfl
  have o_is_shuffle_row := ok_is_shuffle_row (P := P) (base := base) c o_is_whole F_is_shuffle_row
  obtain ⟨fd_shuffle_words, F_shuffle_words⟩ := s.t.d.def_ 37 (d := d_shuffle_words) rfl
  have o_shuffle_words := ok_shuffle_words (P := P) (base := base) c o_is_shuffle_row o_is_whole o_need_most F_shuffle_words
  obtain ⟨fd_written_program, F_written_program⟩ := s.t.d.def_ 38 (d := d_written_program) rfl
  have o_written_program := ok_written_program (P := P) (base := base) c  F_written_program
  obtain ⟨fd_word_of, F_word_of⟩ := s.t.d.def_ 39 (d := d_word_of) rfl
  have o_word_of := ok_word_of (P := P) (base := base) c  F_word_of
  obtain ⟨fd_parse_program, F_parse_program⟩ := s.t.d.def_ 40 (d := d_parse_program) rfl
  have o_parse_program := ok_parse_program (P := P) (base := base) c o_is_program o_word_of o_written_program F_parse_program
  obtain ⟨fd_left_out, F_left_out⟩ := s.t.d.def_ 41 (d := d_left_out) rfl
  have o_left_out := ok_left_out (P := P) (base := base) c o_is_whole o_need_program F_left_out
  obtain ⟨fd_Desk_redo, F_Desk_redo⟩ := s.t.d.def_ 42 (d := d_Desk_redo) rfl
  have o_Desk_redo := ok_Desk_redo (P := P) (base := base) c  F_Desk_redo
  obtain ⟨fd__law_alone, F__law_alone⟩ := s.t.d.def_ 43 (d := d__law_alone) rfl
  have o__law_alone := ok__law_alone (P := P) (base := base) c t  F__law_alone
  obtain ⟨fd_Desk___init__, F_Desk___init__⟩ := s.t.d.def_ 44 (d := d_Desk___init__) rfl
  have o_Desk___init__ := ok_Desk___init__ (P := P) (base := base) c o_need_program F_Desk___init__
  exact ok_law c o_Desk___init__ o_Desk_redo o__law_alone o__law_met o__law_roll o__law_rounds o_count_shuffles o_form o_left_out o_parse_program o_run o_shuffle_words o_uses TB_law F_law
end K13
open PySem PySem.W PySem.Calls PyProof.Rows
theorem PySem.Challenge.cw_stackforms_k13_errors_apart_holds : PySem.Challenge.rw_stackforms_k13_errors_apart.Holds := by
  w_on; o_law
  o_head K13.hk
  case hw => w_witness2
  case hc =>
    refine DL.walk_ofTW (l := PySem.Challenge.rw_stackforms_k13_errors_apart) (n := 63) (k := 10) (x := "script") (CX := fun w => L2N.CX PySem.Challenge.rw_stackforms_k13_errors_apart.prog w) rfl (by decide) (by kernel_rfl) ⟨rfl, by decide, by decide⟩ ?F (fun w H s e s' z => DL.cx_none z)
    intro w mg fa h Y G hmg
    obtain ⟨K, KX, c⟩ := Y
    obtain ⟨fd, hb, hF⟩ := K13.law_ok (P := PySem.Challenge.rw_stackforms_k13_errors_apart.prog) KX G hmg c
    exact ⟨K, KX, fd, [He.cT K ("law", none)], _, fun p hp => by rw [List.mem_singleton.mp hp]; exact c.empty ("law", none) (List.mem_singleton.mpr rfl), fun p hp => by rw [List.mem_singleton.mp hp]; exact c.out ("law", none) (List.mem_singleton.mpr rfl), fun p hp => by rw [List.mem_singleton.mp hp]; exact PySem.W.codeHd_of_K KX (c.hd ("law", none) (List.mem_singleton.mpr rfl)), hb,
      fun H a ns hl _ hH hS => DL.sp_lawT (C := K13.CT PySem.Challenge.rw_stackforms_k13_errors_apart.prog w K) (fun p hp => by rw [List.mem_singleton.mp hp]; exact hH (He.cT K ("law", none)) (List.mem_singleton.mpr rfl)) hS (K13.plain ns hl), fun base _ _ hTB => hF base (hTB _ (by simp))⟩
