import PyProof.Rows.All
import Wide.All
import OpenK.AllK
import Wide.FinOn
import HandS.ForMost
import HandS.ForExc
import HandS.HeadHook2
import HandS.HeadEnd
import HandS.Head2
import HandS.Wide
import HandS.TupAny
import HandS.Deep
import HandS.Flow
import HandS.Style
import HandS.Conv
import HandS.IsInst
import HandS.TryMany
import HandS.Defaults
import HandS.Dict
import HandS.DictComp
import HandS.Small
import KE.SortData
import KE.DataCmp
import KE.KDictKeyed
import HandS.Text
import HandS.Iter
import HandS.Comp
import HandS.Lambda
import HandS.ExcIs
import HandS.ExcField
import KE.KExcIs
import HandS.HeadHook4
import HandS.ExcInit
import KE.KExcSuper
import KE.KSuper
import HandS.WordsExc
import PySem.Challenge.RW_pactwork_k44_settlements_and_rings
set_option Elab.async false
set_option linter.all false
set_option maxRecDepth 100001
set_option maxHeartbeats 0

namespace Pv
open PySem PySem.Spec L2
open PyProof.Rows hiding St

/-! ### results -/
inductive R (α : Type) where
  | ok (a : α) | exc (n : Str) (ds : List PyData) | bad
def R.bind {α β : Type} : R α → (α → R β) → R β
  | .ok a, k => k a
  | .exc n ds, _ => .exc n ds
  | .bad, _ => .bad
@[simp] theorem R.bind_ok {α β : Type} (a : α) (k : α → R β) : (R.ok a).bind k = k a := rfl
@[simp] theorem R.bind_exc {α β : Type} (n : Str) (ds : List PyData) (k : α → R β) : (R.exc n ds).bind k = .exc n ds := rfl
@[simp] theorem R.bind_bad {α β : Type} (k : α → R β) : (R.bad : R α).bind k = .bad := rfl

/-! ### data that a value reads as; F: lists and dicts that are not to be met in it -/
/-- a key's datum -/
def kD : Key → PyData
  | .inl i => .int i
  | .inr x => .str x
def kTD (ks : List Key) : PyData := .tuple (ks.map kD)
/-- a dict's entry in the ledger, by its keys' data and its values -/
def DcO (ks : List PyData) (vs : List V) (o : HO) : Prop :=
  (∃ κ : List Key, ks = κ.map kD ∧ o = .dK (κ.zip vs)) ∨ (ks ≠ [] ∧ ∃ κ : List (List Key), ks = κ.map kTD ∧ o = .dT (κ.zip vs))
theorem DcO.mut {ks : List PyData} {vs : List V} {o : HO} (h : DcO ks vs o) : Mut (some o) := by
  rcases h with ⟨κ, _, rfl⟩ | ⟨_, κ, _, rfl⟩ <;> trivial
theorem DcO.notXd {ks : List PyData} {vs : List V} {o : HO} {fs : List (Str × V)} (h : DcO ks vs o) (e : o = .xd fs) : False := by
  rcases h with ⟨κ, _, rfl⟩ | ⟨_, κ, _, rfl⟩ <;> cases e
mutual
def Rp (K : PySem.W.Frag) (F : Addr → Prop) (H : Hp) : PyData → V → Prop
  | .none, v => v = .non
  | .bool b, v => v = .bl b
  | .int i, v => v = .int i
  | .str x, v => v = .str x
  | .list ds, v => ∃ a vs, v = .ref a ∧ ¬ F a ∧ Rd H a (.lst vs) ∧ Rps K F H ds vs
  | .tuple ds, v => ∃ a vs, v = .ref a ∧ SqT K H a vs ∧ Rps K F H ds vs
  | .dict kvs, v => ∃ a vs o, v = .ref a ∧ ¬ F a ∧ H a = some o ∧ DcO (kvs.map (·.1)) vs o ∧ Rpk K F H kvs vs
def Rps (K : PySem.W.Frag) (F : Addr → Prop) (H : Hp) : List PyData → List V → Prop
  | [], vs => vs = []
  | d :: ds, vs => ∃ v r, vs = v :: r ∧ Rp K F H d v ∧ Rps K F H ds r
/-- a dict's values -/
def Rpk (K : PySem.W.Frag) (F : Addr → Prop) (H : Hp) : List (PyData × PyData) → List V → Prop
  | [], vs => vs = []
  | (_, d) :: ds, vs => ∃ v r, vs = v :: r ∧ Rp K F H d v ∧ Rpk K F H ds r
end
/-! no dict within -/
mutual
def noDic : PyData → Bool
  | .dict _ => false
  | .list xs | .tuple xs => noDics xs
  | _ => true
def noDics : List PyData → Bool
  | [] => true
  | x :: xs => noDic x && noDics xs
end
/-- the lists and tuples at hand stay -/
def Stay (F : Addr → Prop) (H H' : Hp) : Prop := ∀ a o, ¬ F a → H a = some o → H' a = some o
theorem SqL.stay {K : PySem.W.Frag} {H H' : Hp} {a : Addr} {vs : List V} (h : SqL K H a vs) (s : ∀ o, H a = some o → H' a = some o) : SqL K H' a vs := by
  rcases h with (h | ⟨o, h⟩) | h
  · exact .inl (.inl (s _ h))
  · exact .inl (.inr ⟨o, s _ h⟩)
  · exact .inr h
theorem Rd.stay {H H' : Hp} {a : Addr} {o : HO} (h : Rd H a o) (s : ∀ o, H a = some o → H' a = some o) : Rd H' a o := by
  rcases h with h | ⟨u, h⟩
  · exact .inl (s _ h)
  · exact .inr ⟨u, s _ h⟩
theorem SqT.stay {K : PySem.W.Frag} {H H' : Hp} {a : Addr} {vs : List V} (h : SqT K H a vs) (s : ∀ o, H a = some o → H' a = some o) : SqT K H' a vs := by
  rcases h with (h | ⟨o, h⟩) | h
  · exact .inl (.inl (s _ h))
  · exact .inl (.inr ⟨o, s _ h⟩)
  · exact .inr h
/-- tuples, and what F does not name, stay -/
def Kp (F : Addr → Prop) (H H' : Hp) : Prop := ∀ a o, H a = some o → (¬ F a ∨ (∃ xs, o = .tup xs) ∨ ∃ u xs, o = .frz u (.tup xs)) → H' a = some o
theorem Kp.of_same {F : Addr → Prop} {H H' : Hp} (s : Same H H') : Kp F H H' := fun a o h _ => s a o h
theorem SqT.kp {K : PySem.W.Frag} {F : Addr → Prop} {H H' : Hp} {a : Addr} {vs : List V} (s : Kp F H H') (h : SqT K H a vs) : SqT K H' a vs := by
  rcases h with (h | ⟨o, h⟩) | h
  · exact .inl (.inl (s _ _ h (.inr (.inl ⟨_, rfl⟩))))
  · exact .inl (.inr ⟨o, s _ _ h (.inr (.inr ⟨_, _, rfl⟩))⟩)
  · exact .inr h

section
variable {K : PySem.W.Frag} {F F' : Addr → Prop} {H H' : Hp}
mutual
theorem Rp.keep (s : Kp F H H') (hF : ∀ a, F' a → F a) : ∀ (d : PyData) (v : V), Rp K F H d v → Rp K F' H' d v
  | .none, _, h => h
  | .bool _, _, h => h
  | .int _, _, h => h
  | .str _, _, h => h
  | .list ds, _, ⟨a, vs, e, nf, q, r⟩ => ⟨a, vs, e, fun z => nf (hF a z), Rd.stay q fun o ho => s a o ho (.inl nf), Rps.keep s hF ds vs r⟩
  | .tuple ds, _, ⟨a, vs, e, q, r⟩ => ⟨a, vs, e, SqT.kp s q, Rps.keep s hF ds vs r⟩
  | .dict kvs, _, ⟨a, vs, o, e, nf, q, c, r⟩ => ⟨a, vs, o, e, fun z => nf (hF a z), s a o q (.inl nf), c, Rpk.keep s hF kvs vs r⟩
theorem Rps.keep (s : Kp F H H') (hF : ∀ a, F' a → F a) : ∀ (ds : List PyData) (vs : List V), Rps K F H ds vs → Rps K F' H' ds vs
  | [], _, h => h
  | d :: ds, _, ⟨v, r, e, h1, h2⟩ => ⟨v, r, e, Rp.keep s hF d v h1, Rps.keep s hF ds r h2⟩
theorem Rpk.keep (s : Kp F H H') (hF : ∀ a, F' a → F a) : ∀ (ds : List (PyData × PyData)) (vs : List V), Rpk K F H ds vs → Rpk K F' H' ds vs
  | [], _, h => h
  | (_, d) :: ds, _, ⟨v, r, e, h1, h2⟩ => ⟨v, r, e, Rp.keep s hF d v h1, Rpk.keep s hF ds r h2⟩
end
theorem Rp.same {d : PyData} {v : V} (h : Rp K F H d v) (s : Same H H') : Rp K F H' d v := Rp.keep (Kp.of_same s) (fun _ z => z) d v h
theorem Rps.same {d : List PyData} {v : List V} (h : Rps K F H d v) (s : Same H H') : Rps K F H' d v := Rps.keep (Kp.of_same s) (fun _ z => z) d v h
theorem Rpk.same {d : List (PyData × PyData)} {v : List V} (h : Rpk K F H d v) (s : Same H H') : Rpk K F H' d v := Rpk.keep (Kp.of_same s) (fun _ z => z) d v h
theorem Rpk.less {d : List (PyData × PyData)} {v : List V} (h : Rpk K F H d v) (hF : ∀ a, F' a → F a) : Rpk K F' H d v := Rpk.keep (Kp.of_same (Same.refl H)) hF d v h
theorem Rpk.length : ∀ {ds : List (PyData × PyData)} {vs : List V}, Rpk K F H ds vs → ds.length = vs.length
  | [], vs, h => by have h : vs = [] := h; subst h; rfl
  | (_, d) :: ds, vs, h => by
    obtain ⟨v, r, e, _, h2⟩ := h
    subst e
    simp [Rpk.length h2]
theorem Rp.less {d : PyData} {v : V} (h : Rp K F H d v) (hF : ∀ a, F' a → F a) : Rp K F' H d v := Rp.keep (Kp.of_same (Same.refl H)) hF d v h
theorem Rps.less {d : List PyData} {v : List V} (h : Rps K F H d v) (hF : ∀ a, F' a → F a) : Rps K F' H d v := Rps.keep (Kp.of_same (Same.refl H)) hF d v h
/-- no list within -/
def flat : PyData → Bool
  | .none | .bool _ | .int _ | .str _ => true
  | .tuple ds => flats ds
  | .list _ | .dict _ => false
where flats : List PyData → Bool
  | [] => true
  | d :: ds => flat d && flats ds
mutual
theorem Rp.flat : ∀ (d : PyData) (v : V), flat d = true → Rp K F H d v → Rp K F' H d v
  | .none, _, _, h => h
  | .bool _, _, _, h => h
  | .int _, _, _, h => h
  | .str _, _, _, h => h
  | .tuple ds, _, z, ⟨a, vs, e, q, r⟩ => ⟨a, vs, e, q, Rps.flat ds vs z r⟩
  | .list _, _, z, _ => nomatch z
  | .dict _, _, z, _ => nomatch z
theorem Rps.flat : ∀ (ds : List PyData) (vs : List V), flat.flats ds = true → Rps K F H ds vs → Rps K F' H ds vs
  | [], _, _, h => h
  | d :: ds, _, z, ⟨v, r, e, h1, h2⟩ => by
    have z' : (Pv.flat d && flat.flats ds) = true := z
    rw [Bool.and_eq_true] at z'
    exact ⟨v, r, e, Rp.flat d v z'.1 h1, Rps.flat ds r z'.2 h2⟩
end
/-- at hand to be read: a list of one's own too -/
def Rb (K : PySem.W.Frag) (F : Addr → Prop) (H : Hp) : PyData → V → Prop
  | .list ds, v => ∃ a vs, v = .ref a ∧ Rd H a (.lst vs) ∧ Rps K F H ds vs
  | .dict kvs, v => ∃ a vs o, v = .ref a ∧ H a = some o ∧ DcO (kvs.map (·.1)) vs o ∧ Rpk K F H kvs vs
  | d, v => Rp K F H d v
theorem Rp.rb {d : PyData} {v : V} (h : Rp K F H d v) : Rb K F H d v := by
  cases d with
  | list ds => obtain ⟨a, vs, e, _, q, r⟩ := h; exact ⟨a, vs, e, q, r⟩
  | dict kvs => obtain ⟨a, vs, o, e, _, q, c, r⟩ := h; exact ⟨a, vs, o, e, q, c, r⟩
  | _ => exact h
theorem Rb.same {d : PyData} {v : V} (h : Rb K F H d v) (s : Same H H') : Rb K F H' d v := by
  cases d with
  | list ds => obtain ⟨a, vs, e, q, r⟩ := h; exact ⟨a, vs, e, Rd.stay q fun o ho => s a o ho, r.same s⟩
  | none => exact Rp.same (K := K) (F := F) (d := .none) h s
  | bool b => exact Rp.same (K := K) (F := F) (d := .bool b) h s
  | int i => exact Rp.same (K := K) (F := F) (d := .int i) h s
  | str x => exact Rp.same (K := K) (F := F) (d := .str x) h s
  | tuple ds => exact Rp.same (K := K) (F := F) (d := .tuple ds) h s
  | dict kvs => obtain ⟨a, vs, o, e, q, c, r⟩ := h; exact ⟨a, vs, o, e, s a o q, c, r.same s⟩
theorem Rps.length : ∀ {ds : List PyData} {vs : List V}, Rps K F H ds vs → ds.length = vs.length
  | [], vs, h => by have h : vs = [] := h; subst h; rfl
  | d :: ds, vs, h => by
    obtain ⟨v, r, e, _, h2⟩ := h
    subst e
    simp [Rps.length h2]
theorem Rps.append : ∀ {ds es : List PyData} {vs ws : List V}, Rps K F H ds vs → Rps K F H es ws → Rps K F H (ds ++ es) (vs ++ ws)
  | [], es, vs, ws, h, g => by have h : vs = [] := h; subst h; exact g
  | d :: ds, es, vs, ws, h, g => by
    obtain ⟨v, r, e, h1, h2⟩ := h
    subst e
    exact ⟨v, r ++ ws, rfl, h1, Rps.append h2 g⟩
theorem Rps.one {d : PyData} {v : V} (h : Rp K F H d v) : Rps K F H [d] [v] := ⟨v, [], rfl, h, rfl⟩
theorem Rps.get : ∀ {ds : List PyData} {vs : List V} {i : Nat} {d : PyData}, Rps K F H ds vs → ds[i]? = some d → ∃ v, vs[i]? = some v ∧ Rp K F H d v
  | [], _, _, _, _, e => by simp at e
  | d :: ds, vs, 0, _, h, e => by
    obtain ⟨v, r, rfl, h1, _⟩ := h
    simp at e; subst e
    exact ⟨v, rfl, h1⟩
  | d :: ds, vs, i + 1, x, h, e => by
    obtain ⟨v, r, rfl, _, h2⟩ := h
    obtain ⟨u, e1, e2⟩ := Rps.get (i := i) (d := x) h2 (by simpa using e)
    exact ⟨u, by simpa using e1, e2⟩
theorem Rps.take : ∀ {ds : List PyData} {vs : List V} (n : Nat), Rps K F H ds vs → Rps K F H (ds.take n) (vs.take n)
  | [], vs, n, h => by have h : vs = [] := h; subst h; simp [Rps]
  | d :: ds, vs, 0, h => by simp [Rps]
  | d :: ds, vs, n + 1, h => by
    obtain ⟨v, r, rfl, h1, h2⟩ := h
    exact ⟨v, r.take n, by simp, h1, Rps.take n h2⟩
theorem Rps.drop : ∀ {ds : List PyData} {vs : List V} (n : Nat), Rps K F H ds vs → Rps K F H (ds.drop n) (vs.drop n)
  | [], vs, n, h => by have h : vs = [] := h; subst h; simp [Rps]
  | d :: ds, vs, 0, h => h
  | d :: ds, vs, n + 1, h => by
    obtain ⟨v, r, rfl, h1, h2⟩ := h
    exact Rps.drop n h2
theorem Rps.set {d : PyData} {v : V} (q : Rp K F H d v) : ∀ {ds : List PyData} {vs : List V} (i : Nat), Rps K F H ds vs → Rps K F H (ds.set i d) (vs.set i v)
  | [], vs, i, h => by have h : vs = [] := h; subst h; simp [Rps]
  | e :: ds, vs, 0, h => by
    obtain ⟨u, r, rfl, h1, h2⟩ := h
    exact ⟨v, r, rfl, q, h2⟩
  | e :: ds, vs, i + 1, h => by
    obtain ⟨u, r, rfl, h1, h2⟩ := h
    exact ⟨u, r.set i v, rfl, h1, Rps.set q i h2⟩
theorem Rps.rep {ds : List PyData} {vs : List V} (h : Rps K F H ds vs) : ∀ n : Nat, Rps K F H (List.replicate n ds).flatten (List.replicate n vs).flatten
  | 0 => rfl
  | n + 1 => by
    rw [List.replicate_succ, List.replicate_succ, List.flatten_cons, List.flatten_cons]
    exact Rps.append h (Rps.rep h n)
theorem Rps.rev : ∀ {ds : List PyData} {vs : List V}, Rps K F H ds vs → Rps K F H ds.reverse vs.reverse
  | [], vs, h => by have h : vs = [] := h; subst h; simp [Rps]
  | d :: ds, vs, h => by
    obtain ⟨v, r, rfl, h1, h2⟩ := h
    rw [List.reverse_cons, List.reverse_cons]
    exact Rps.append (Rps.rev h2) (Rps.one h1)

/-! the library's Dp -/
theorem noDics_cons {x : PyData} {xs : List PyData} (h : noDics (x :: xs) = true) : noDic x = true ∧ noDics xs = true := by
  rwa [noDics, Bool.and_eq_true] at h
mutual
theorem Rp.dp : ∀ (d : PyData) (v : V), noDic d = true → Rp K F H d v → Dp K H v d
  | .none, _, _, h => by cases h; exact .non
  | .bool b, _, _, h => by cases h; exact .bl b
  | .int i, _, _, h => by cases h; exact .int i
  | .str x, _, _, h => by cases h; exact .str x
  | .list ds, _, z, ⟨a, vs, e, _, q, r⟩ => by subst e; exact .lst (.inl q) (Rps.dp ds vs z r)
  | .tuple ds, _, z, ⟨a, vs, e, q, r⟩ => by subst e; exact .tup q (Rps.dp ds vs z r)
  | .dict _, _, z, _ => nomatch z
theorem Rps.dp : ∀ (ds : List PyData) (vs : List V), noDics ds = true → Rps K F H ds vs → DpAll K H vs ds
  | [], _, _, h => by cases h; exact .nil
  | d :: ds, _, z, ⟨v, r, e, h1, h2⟩ => by subst e; exact .cons (Rp.dp d v (noDics_cons z).1 h1) (Rps.dp ds r (noDics_cons z).2 h2)
end
theorem Rb.dp {d : PyData} {v : V} (z : noDic d = true) (h : Rb K F H d v) : Dp K H v d := by
  cases d with
  | list ds => obtain ⟨a, vs, e, q, r⟩ := h; subst e; exact .lst (.inl q) (Rps.dp ds vs z r)
  | none => exact Rp.dp (F := F) .none v z h
  | bool b => exact Rp.dp (F := F) (.bool b) v z h
  | int i => exact Rp.dp (F := F) (.int i) v z h
  | str x => exact Rp.dp (F := F) (.str x) v z h
  | tuple ds => exact Rp.dp (F := F) (.tuple ds) v z h
  | dict ds => cases z
end

/-! ### the names' data -/
inductive Sl where
  | no | dat (d : PyData) (own : Bool) | exn (n : Str) (ds : List PyData)
abbrev En := List Sl
def Own (ρ : En) (σ : St) (a : Addr) : Prop := ∃ (i : Nat) (d : PyData), ρ[i]? = some (.dat d true) ∧ σ[i]? = some (some (.ref a))
/-- a thing of one's own at a -/
def OwR (K : PySem.W.Frag) (F : Addr → Prop) (H : Hp) : PyData → Addr → Prop
  | .list ds, a => ∃ vs, H a = some (.lst vs) ∧ Rps K F H ds vs
  | .dict kvs, a => ∃ vs o, H a = some o ∧ DcO (kvs.map (·.1)) vs o ∧ Rpk K F H kvs vs
  | _, _ => False
section
variable {K : PySem.W.Frag} {F F' : Addr → Prop} {H H' : Hp} {d : PyData} {a : Addr}
theorem OwR.keep (k : Kp F H H') (hF : ∀ a, F' a → F a) (hs : ∀ o, H a = some o → H' a = some o) (h : OwR K F H d a) : OwR K F' H' d a := by
  cases d with
  | list ds => obtain ⟨vs, e, r⟩ := h; exact ⟨vs, hs _ e, Rps.keep k hF _ _ r⟩
  | dict kvs => obtain ⟨vs, o, e, c, r⟩ := h; exact ⟨vs, o, hs _ e, c, Rpk.keep k hF _ _ r⟩
  | _ => exact False.elim h
theorem OwR.same (s : Same H H') (h : OwR K F H d a) : OwR K F H' d a := h.keep (Kp.of_same s) (fun _ z => z) fun o e => s a o e
theorem OwR.less (hF : ∀ a, F' a → F a) (h : OwR K F H d a) : OwR K F' H d a := h.keep (Kp.of_same (Same.refl H)) hF fun o e => e
theorem OwR.there (h : OwR K F H d a) : ∃ o, H a = some o ∧ Mut (some o) ∧ ∀ fs, o ≠ .xd fs := by
  cases d with
  | list ds => obtain ⟨vs, e, r⟩ := h; exact ⟨_, e, trivial, fun fs z => by cases z⟩
  | dict kvs => obtain ⟨vs, o, e, c, r⟩ := h; exact ⟨o, e, c.mut, fun fs z => c.notXd z⟩
  | _ => exact False.elim h
theorem OwR.mut (h : OwR K F H d a) : Mut (H a) := by
  obtain ⟨o, e, m, _⟩ := h.there
  rw [e]; exact m
theorem OwR.rb (h : OwR K F H d a) : Rb K F H d (.ref a) := by
  cases d with
  | list ds => obtain ⟨vs, e, r⟩ := h; exact ⟨a, vs, rfl, .inl e, r⟩
  | dict kvs => obtain ⟨vs, o, e, c, r⟩ := h; exact ⟨a, vs, o, rfl, e, c, r⟩
  | _ => exact False.elim h
theorem OwR.rp (h : OwR K F H d a) (nf : ¬ F a) : Rp K F H d (.ref a) := by
  cases d with
  | list ds => obtain ⟨vs, e, r⟩ := h; exact ⟨a, vs, rfl, nf, .inl e, r⟩
  | dict kvs => obtain ⟨vs, o, e, c, r⟩ := h; exact ⟨a, vs, o, rfl, nf, e, c, r⟩
  | _ => exact False.elim h
end
abbrev FF (F : Addr → Prop) (ρ : En) (σ : St) : Addr → Prop := fun a => F a ∨ Own ρ σ a

/-- an exception of the class n with the fields' data ds -/
structure Gx where
  mg : Str → Option Value
  flds : Str → List Str
  sx : Option (Addr × Addr × Option Addr) := none
def XR (K : PySem.W.Frag) (G : Gx) (F : Addr → Prop) (H : Hp) (n : Str) (ds : List PyData) (cls : Value) (od : Option Addr) : Prop :=
  ∃ C, G.mg n = some (.ref C) ∧ cls = .ref C ∧ ((G.flds n = [] ∧ ds = [] ∧ od = none) ∨ (G.flds n ≠ [] ∧ ∃ dx vs, od = some dx ∧ H dx = some (.xd ((G.flds n).zip vs)) ∧ (G.flds n).length = vs.length ∧ Rps K F H ds vs))
structure RE (K : PySem.W.Frag) (G : Gx) (F : Addr → Prop) (H₀ : Hp) (M : Addr → Prop) (ρ : En) (σ : St) (H : Hp) : Prop where
  len : ρ.length = σ.length
  pl : ∀ (i : Nat) (d : PyData), ρ[i]? = some (.dat d false) → ∃ v, σ[i]? = some (some v) ∧ Rp K (FF F ρ σ) H d v
  ow : ∀ (i : Nat) (d : PyData), ρ[i]? = some (.dat d true) → ∃ a, σ[i]? = some (some (.ref a)) ∧ OwR K (FF F ρ σ) H d a
  un : ∀ (i j : Nat) (d e : PyData) (a : Addr), ρ[i]? = some (.dat d true) → ρ[j]? = some (.dat e true) → σ[i]? = some (some (.ref a)) → σ[j]? = some (some (.ref a)) → i = j
  frm : ∀ a o, H₀ a = some o → ¬ M a → H a = some o
  own : ∀ a, Own ρ σ a → (H₀ a = none ∨ M a) ∧ ¬ F a
  fn : ∀ a, F a → Mut (H₀ a) ∧ ¬ M a
  ex : ∀ (i : Nat) (n : Str) (ds : List PyData), ρ[i]? = some (.exn n ds) → ∃ a C od, G.sx = some (a, C, od) ∧ σ[i]? = some (some (.ref a)) ∧ XR K G (FF F ρ σ) H n ds (.ref C) od

section
variable {K : PySem.W.Frag} {G : Gx} {F F' M : Addr → Prop} {H₀ H H' : Hp} {ρ : En} {σ : St}
theorem XR.keep {n : Str} {ds : List PyData} {cls : Value} {od : Option Addr} (h : XR K G F H n ds cls od) (hx : ∀ dx fs, H dx = some (.xd fs) → H' dx = some (.xd fs)) (hk : ∀ vs, Rps K F H ds vs → Rps K F' H' ds vs) : XR K G F' H' n ds cls od := by
  obtain ⟨C, h1, h2, h3⟩ := h
  refine ⟨C, h1, h2, ?_⟩
  rcases h3 with h3 | ⟨h4, dx, ws, h5, h6, h7, h8⟩
  · exact .inl h3
  · exact .inr ⟨h4, dx, ws, h5, hx _ _ h6, h7, hk _ h8⟩
theorem XR.same {n : Str} {ds : List PyData} {cls : Value} {od : Option Addr} (h : XR K G F H n ds cls od) (s : Same H H') : XR K G F H' n ds cls od := h.keep (fun _ _ e => s _ _ e) fun _ r => r.same s
theorem XR.less {n : Str} {ds : List PyData} {cls : Value} {od : Option Addr} (h : XR K G F H n ds cls od) (hF : ∀ a, F' a → F a) : XR K G F' H n ds cls od := h.keep (fun _ _ e => e) fun _ r => r.less hF
theorem RE.same (r : RE K G F H₀ M ρ σ H) (s : Same H H') : RE K G F H₀ M ρ σ H' where
  len := r.len
  pl := fun i d e => let ⟨v, e1, q⟩ := r.pl i d e; ⟨v, e1, q.same s⟩
  ow := fun i d e => let ⟨a, e1, q⟩ := r.ow i d e; ⟨a, e1, q.same s⟩
  un := r.un
  frm := fun a o h m => s a o (r.frm a o h m)
  own := r.own
  fn := r.fn
  ex := fun i n ds e => let ⟨a, C, od, e1, e2, x⟩ := r.ex i n ds e; ⟨a, C, od, e1, e2, x.same s⟩
theorem mut_some {o : Option HO} (h : Mut o) : ∃ u, o = some u := by
  cases o with
  | none => exact False.elim h
  | some u => exact ⟨u, rfl⟩
theorem RE.ff (r : RE K G F H₀ M ρ σ H) {a : Addr} (h : FF F ρ σ a) : Mut (H a) := by
  rcases h with h | ⟨i, d, e1, e2⟩
  · obtain ⟨mu, m⟩ := r.fn a h
    obtain ⟨o, e⟩ := mut_some mu
    rw [r.frm a o e m, ← e]
    exact mu
  · obtain ⟨b, e3, q⟩ := r.ow i d e1
    rw [e2] at e3
    injection e3 with e3; injection e3 with e3; injection e3 with e3
    subst e3
    exact q.mut
theorem RE.new (r : RE K G F H₀ M ρ σ H) {p : Addr} (h : H p = none) : ¬ FF F ρ σ p := fun z => by
  have := r.ff z
  rw [h] at this
  exact this
end

/-! ### what is asked behind -/
section
variable {α β γ δ : Type}
def Post (K : PySem.W.Frag) (G : Gx) (W : WX) (rep : (Addr → Prop) → Hp → α → β → Prop) (σ : St) (F : Addr → Prop) (H : Hp) (r : R α) (Q : β → Hp → Prop) : Prop :=
  match r with
  | .ok d => ∀ v H', Same H H' → rep F H' d v → Q v H'
  | .exc n ds => ∀ cls od H', Same H H' → XR K G F H' n ds cls od → W cls od σ H'
  | .bad => False
variable {K : PySem.W.Frag} {G : Gx} {W : WX} {σ : St} {F : Addr → Prop} {H H' : Hp} {rep : (Addr → Prop) → Hp → α → β → Prop} {rep2 : (Addr → Prop) → Hp → γ → δ → Prop}
theorem Post.same {r : R α} {Q : β → Hp → Prop} (p : Post K G W rep σ F H r Q) (s : Same H H') : Post K G W rep σ F H' r Q := by
  cases r with
  | ok d => exact fun v H1 s1 q => p v H1 (s.trans s1) q
  | exc n ds => exact fun c o H1 s1 q => p c o H1 (s.trans s1) q
  | bad => exact p
theorem Post.bind {r : R γ} {k : γ → R α} {Q : β → Hp → Prop} {P : δ → Hp → Prop} (p : Post K G W rep σ F H (r.bind k) Q)
    (h : ∀ a x H1, Same H H1 → rep2 F H1 a x → Post K G W rep σ F H1 (k a) Q → P x H1) : Post K G W rep2 σ F H r P := by
  cases r with
  | ok a => exact fun x H1 s1 q => h a x H1 s1 q (Post.same p s1)
  | exc n ds => exact p
  | bad => exact p
theorem Post.fin {d : α} {v : β} {Q : β → Hp → Prop} (p : Post K G W rep σ F H (.ok d) Q) (s : Same H H') (q : rep F H' d v) : Q v H' := p v H' s q
/-- a reading by what an evaluation gives -/
def tR (K : PySem.W.Frag) (G : Gx) (W : WX) (rep : (Addr → Prop) → Hp → α → β → Prop) (c : En → R α) : St → Hp → (β → Hp → Prop) → Prop := fun σ H Q =>
  ∃ F H₀ M ρ, RE K G F H₀ M ρ σ H ∧ Post K G W rep σ (FF F ρ σ) H (c ρ) Q
end
end Pv


/-! == and != of data, whatever signs the texts have -/
namespace Pv
open PySem PySem.Spec L2 PySem.SeqAt
open PyProof.Rows hiding St
mutual
theorem rd_one {h : Heap} : ∀ (d d' : PyData) (v : Value) (as as' : List Addr), noDic d = true → Reads h v d as → Reads h v d' as' → d = d'
  | .none, _, _, _, _, _, r, r' | .bool _, _, _, _, _, _, r, r' | .int _, _, _, _, _, _, r, r' | .str _, _, _, _, _, _, r, r' => by cases r; cases r'; rfl
  | .dict _, _, _, _, _, z, _, _ => nomatch z
  | .list xs, _, _, _, _, z, r, r' => by
    cases r with | list a1 a2 a3 a4 => ?_
    cases r' with
    | list b1 b2 b3 b4 =>
      cases a1.symm.trans b1; cases a3.symm.trans b3
      exact congrArg PyData.list (rds_one xs _ _ _ _ z a4 b4)
    | tuple b1 b2 => cases a1.symm.trans b1; rw [a2] at b2; simp at b2
    | dict b1 b2 => cases a1.symm.trans b1; rw [a2] at b2; simp at b2
  | .tuple xs, _, _, _, _, z, r, r' => by
    cases r with | tuple a1 a2 a3 a4 => ?_
    cases r' with
    | tuple b1 b2 b3 b4 =>
      cases a1.symm.trans b1; cases a3.symm.trans b3
      exact congrArg PyData.tuple (rds_one xs _ _ _ _ z a4 b4)
    | list b1 b2 => cases a1.symm.trans b1; rw [a2] at b2; simp at b2
    | dict b1 b2 => cases a1.symm.trans b1; rw [a2] at b2; simp at b2
theorem rds_one {h : Heap} : ∀ (ds ds' : List PyData) (vs : List Value) (as as' : List Addr), noDics ds = true → ReadsAll h vs ds as → ReadsAll h vs ds' as' → ds = ds'
  | [], _, _, _, _, _, r, r' => by cases r; cases r'; rfl
  | d :: ds, _, _, _, _, z, r, r' => by
    cases r with | cons a1 a2 => ?_
    cases r' with | cons b1 b2 => ?_
    rw [rd_one d _ _ _ _ (noDics_cons z).1 a1 b1, rds_one ds _ _ _ _ (noDics_cons z).2 a2 b2]
end
mutual
theorem eqv_self : ∀ d : PyData, noDic d = true → PyData.eqv d d = true
  | .none, _ => rfl
  | .bool _, _ | .int _, _ | .str _, _ => by simp [PyData.eqv]
  | .list xs, z | .tuple xs, z => by rw [PyData.eqv]; exact eqvs_self xs z
  | .dict _, z => nomatch z
theorem eqvs_self : ∀ ds : List PyData, noDics ds = true → PyData.eqvAll ds ds = true
  | [], _ => rfl
  | d :: ds, z => by rw [PyData.eqvAll, eqv_self d (noDics_cons z).1, eqvs_self ds (noDics_cons z).2]; rfl
end
mutual
theorem eq_at : ∀ (d e : PyData) (A : Around) (s : Shared) (a b : Value) (as bs : List Addr), Reads s.heap a d as → Reads s.heap b e bs → noDic d = true → noDic e = true →
    A.units + min d.depth e.depth < cLine → EqAt A s a b (PyData.eqv d e)
  | d, e, A, s, a, b, as, bs, ra, rb, zd, ze, hu => by
    have u0 := room_here hu
    cases ra with
    | none =>
      cases rb with
      | none => exact EqAt.same _
      | bool y => exact .none_bool y
      | int y u => exact .none_int y u
      | str y u => exact .none_str y u
      | list b1 b2 b3 => exact .none_list ⟨_, b1, b2, _, b3⟩ u0
      | tuple b1 b2 b3 => exact .none_tuple ⟨_, b1, b2, _, b3⟩ u0
      | dict => exact nomatch ze
    | bool x =>
      cases rb with
      | none => exact .bool_none x
      | bool y => exact .bool_bool x y
      | int y u => exact .bool_int x y u
      | str y u => exact .bool_str x y u
      | list b1 b2 b3 => exact .bool_list x ⟨_, b1, b2, _, b3⟩ u0
      | tuple b1 b2 b3 => exact .bool_tuple x ⟨_, b1, b2, _, b3⟩ u0
      | dict => exact nomatch ze
    | int x t =>
      cases rb with
      | none => exact .int_none x t
      | bool y => exact .int_bool x t y
      | int y u => exact .int_int x t y u
      | str y u => exact .int_str x t y u
      | list b1 b2 b3 => exact .int_list x t ⟨_, b1, b2, _, b3⟩ u0
      | tuple b1 b2 b3 => exact .int_tuple x t ⟨_, b1, b2, _, b3⟩ u0
      | dict => exact nomatch ze
    | str x t =>
      cases rb with
      | none => exact .str_none x t
      | bool y => exact .str_bool x t y
      | int y u => exact .str_int x t y u
      | str y u => exact .str_str x t y u
      | list b1 b2 b3 => exact .str_list x t ⟨_, b1, b2, _, b3⟩ u0
      | tuple b1 b2 b3 => exact .str_tuple x t ⟨_, b1, b2, _, b3⟩ u0
      | dict => exact nomatch ze
    | dict => exact nomatch zd
    | @list l _ vs _ xs _ a1 a2 a3 a4 =>
      have ql : s.heap.IsList l vs := ⟨_, a1, a2, _, a3⟩
      cases rb with
      | none => exact .list_none ql u0
      | bool y => exact .list_bool y ql u0
      | int y u => exact .list_int y u ql u0
      | str y u => exact .list_str y u ql u0
      | tuple b1 b2 b3 => exact .list_tuple ql ⟨_, b1, b2, _, b3⟩ u0
      | dict => exact nomatch ze
      | @list m _ ws _ ys _ b1 b2 b3 b4 =>
        have qm : s.heap.IsList m ws := ⟨_, b1, b2, _, b3⟩
        have c1 : vs.size = xs.length := by have := ReadsAll.length _ _ _ a4; simpa using this
        have c2 : ws.size = ys.length := by have := ReadsAll.length _ _ _ b4; simpa using this
        change EqAt A s _ _ (PyData.eqvAll xs ys)
        by_cases q : l = m
        · subst q
          cases a1.symm.trans b1; cases a3.symm.trans b3
          cases rds_one xs ys _ _ _ zd a4 b4
          rw [eqvs_self xs zd]
          exact EqAt.same _
        · by_cases z : vs.size = ws.size
          · rw [← eqvAll_same_length (by omega : xs.length = ys.length), ← c1]
            exact EqAt.of_refs q (RcAt.lists ql qm z u0 fun j j1 j2 => eqs_at xs ys A.in1 s vs.toList ws.toList _ _ a4 b4 zd ze (room_in hu) j (by simpa using j1) (by simpa using j2))
          · rw [eqvAll_other_length (by omega : xs.length ≠ ys.length)]
            exact EqAt.of_refs q (RcAt.lists_lengths ql qm (by simpa using z) u0)
    | @tuple l _ vs _ xs _ a1 a2 a3 a4 =>
      have ql : s.heap.IsTuple l vs := ⟨_, a1, a2, _, a3⟩
      cases rb with
      | none => exact .tuple_none ql u0
      | bool y => exact .tuple_bool y ql u0
      | int y u => exact .tuple_int y u ql u0
      | str y u => exact .tuple_str y u ql u0
      | list b1 b2 b3 => exact .tuple_list ql ⟨_, b1, b2, _, b3⟩ u0
      | dict => exact nomatch ze
      | @tuple m _ ws _ ys _ b1 b2 b3 b4 =>
        have qm : s.heap.IsTuple m ws := ⟨_, b1, b2, _, b3⟩
        have c1 : vs.size = xs.length := by have := ReadsAll.length _ _ _ a4; simpa using this
        have c2 : ws.size = ys.length := by have := ReadsAll.length _ _ _ b4; simpa using this
        change EqAt A s _ _ (PyData.eqvAll xs ys)
        by_cases q : l = m
        · subst q
          cases a1.symm.trans b1; cases a3.symm.trans b3
          cases rds_one xs ys _ _ _ zd a4 b4
          rw [eqvs_self xs zd]
          exact EqAt.same _
        · rw [← eqvAll_eq xs ys, ← c1, ← c2]
          exact EqAt.of_refs q (RcAt.tuples ql qm u0 fun j j1 j2 => eqs_at xs ys A.in1 s vs.toList ws.toList _ _ a4 b4 zd ze (room_in hu) j (by simpa using j1) (by simpa using j2))
termination_by d => sizeOf d
decreasing_by all_goals (subst_vars; simp_wf; try omega)
theorem eqs_at : ∀ (ds es : List PyData) (A : Around) (s : Shared) (vs ws : List Value) (as bs : List Addr), ReadsAll s.heap vs ds as → ReadsAll s.heap ws es bs → noDics ds = true → noDics es = true →
    A.units + min (PyData.depthAll ds) (PyData.depthAll es) < cLine → ∀ j (h1 : j < vs.length) (h2 : j < ws.length), EqAt A s vs[j] ws[j] (pairEq ds es j)
  | [], _, _, _, _, _, _, _, ra, _, _, _, _, j, h1, _ => by cases ra; exact absurd h1 (Nat.not_lt_zero _)
  | _ :: _, [], _, _, _, _, _, _, _, rb, _, _, _, j, _, h2 => by cases rb; exact absurd h2 (Nat.not_lt_zero _)
  | d :: ds, e :: es, A, s, _, _, _, _, ra, rb, zd, ze, hu, j, h1, h2 => by
    cases ra with | cons a1 a2 => ?_
    cases rb with | cons b1 b2 => ?_
    cases j with
    | zero => exact eq_at d e A s _ _ _ _ a1 b1 (noDics_cons zd).1 (noDics_cons ze).1 (room_head hu)
    | succ j => exact eqs_at ds es A s _ _ _ _ a2 b2 (noDics_cons zd).2 (noDics_cons ze).2 (room_tail hu) j (Nat.lt_of_succ_lt_succ h1) (Nat.lt_of_succ_lt_succ h2)
termination_by ds => sizeOf ds
decreasing_by all_goals (simp_wf; try omega)
end
theorem rc_eq {d e : PyData} {A : Around} {s : Shared} {a b : Value} {as bs : List Addr} (ra : Reads s.heap a d as) (rb : Reads s.heap b e bs) (zd : noDic d = true) (ze : noDic e = true)
    (hu : A.units + min d.depth e.depth < cLine) : RcAt A s a b (PyData.eqv d e) := by
  have u0 := room_here hu
  cases ra with
  | none =>
    cases rb with
    | none => exact RcAt.none_none
    | bool y => exact RcAt.none_bool y
    | int y u => exact RcAt.none_int y u
    | str y u => exact RcAt.none_str y u
    | list b1 b2 b3 => exact RcAt.none_list ⟨_, b1, b2, _, b3⟩ u0
    | tuple b1 b2 b3 => exact RcAt.none_tuple ⟨_, b1, b2, _, b3⟩ u0
    | dict => exact nomatch ze
  | bool x =>
    cases rb with
    | none => exact RcAt.bool_none x
    | bool y => exact RcAt.bool_bool x y
    | int y u => exact RcAt.bool_int x y u
    | str y u => exact RcAt.bool_str x y u
    | list b1 b2 b3 => exact RcAt.bool_list x ⟨_, b1, b2, _, b3⟩ u0
    | tuple b1 b2 b3 => exact RcAt.bool_tuple x ⟨_, b1, b2, _, b3⟩ u0
    | dict => exact nomatch ze
  | int x t =>
    cases rb with
    | none => exact RcAt.int_none x t
    | bool y => exact RcAt.int_bool x t y
    | int y u => exact RcAt.int_int x t y u
    | str y u => exact RcAt.int_str x t y u
    | list b1 b2 b3 => exact RcAt.int_list x t ⟨_, b1, b2, _, b3⟩ u0
    | tuple b1 b2 b3 => exact RcAt.int_tuple x t ⟨_, b1, b2, _, b3⟩ u0
    | dict => exact nomatch ze
  | str x t =>
    cases rb with
    | none => exact RcAt.str_none x t
    | bool y => exact RcAt.str_bool x t y
    | int y u => exact RcAt.str_int x t y u
    | str y u => exact RcAt.str_str x t y u
    | list b1 b2 b3 => exact RcAt.str_list x t ⟨_, b1, b2, _, b3⟩ u0
    | tuple b1 b2 b3 => exact RcAt.str_tuple x t ⟨_, b1, b2, _, b3⟩ u0
    | dict => exact nomatch ze
  | dict => exact nomatch zd
  | @list l _ vs _ xs _ a1 a2 a3 a4 =>
    have ql : s.heap.IsList l vs := ⟨_, a1, a2, _, a3⟩
    cases rb with
    | none => exact RcAt.list_none ql u0
    | bool y => exact RcAt.list_bool y ql u0
    | int y u => exact RcAt.list_int y u ql u0
    | str y u => exact RcAt.list_str y u ql u0
    | tuple b1 b2 b3 => exact RcAt.list_tuple ql ⟨_, b1, b2, _, b3⟩ u0
    | dict => exact nomatch ze
    | @list m _ ws _ ys _ b1 b2 b3 b4 =>
      have qm : s.heap.IsList m ws := ⟨_, b1, b2, _, b3⟩
      have c1 : vs.size = xs.length := by have := ReadsAll.length _ _ _ a4; simpa using this
      have c2 : ws.size = ys.length := by have := ReadsAll.length _ _ _ b4; simpa using this
      have he : ∀ j (h1 : j < vs.size) (h2 : j < ws.size), EqAt A.in1 s vs[j] ws[j] (pairEq xs ys j) := fun j j1 j2 => eqs_at xs ys A.in1 s vs.toList ws.toList _ _ a4 b4 zd ze (room_in hu) j (by simpa using j1) (by simpa using j2)
      change RcAt A s _ _ (PyData.eqvAll xs ys)
      by_cases z : vs.size = ws.size
      · rw [← eqvAll_same_length (by omega : xs.length = ys.length), ← c1]
        exact RcAt.lists ql qm z u0 he
      · rw [eqvAll_other_length (by omega : xs.length ≠ ys.length)]
        exact RcAt.lists_lengths ql qm (by simpa using z) u0
  | @tuple l _ vs _ xs _ a1 a2 a3 a4 =>
    have ql : s.heap.IsTuple l vs := ⟨_, a1, a2, _, a3⟩
    cases rb with
    | none => exact RcAt.tuple_none ql u0
    | bool y => exact RcAt.tuple_bool y ql u0
    | int y u => exact RcAt.tuple_int y u ql u0
    | str y u => exact RcAt.tuple_str y u ql u0
    | list b1 b2 b3 => exact RcAt.tuple_list ql ⟨_, b1, b2, _, b3⟩ u0
    | dict => exact nomatch ze
    | @tuple m _ ws _ ys _ b1 b2 b3 b4 =>
      have qm : s.heap.IsTuple m ws := ⟨_, b1, b2, _, b3⟩
      have c1 : vs.size = xs.length := by have := ReadsAll.length _ _ _ a4; simpa using this
      have c2 : ws.size = ys.length := by have := ReadsAll.length _ _ _ b4; simpa using this
      have he : ∀ j (h1 : j < vs.size) (h2 : j < ws.size), EqAt A.in1 s vs[j] ws[j] (pairEq xs ys j) := fun j j1 j2 => eqs_at xs ys A.in1 s vs.toList ws.toList _ _ a4 b4 zd ze (room_in hu) j (by simpa using j1) (by simpa using j2)
      change RcAt A s _ _ (PyData.eqvAll xs ys)
      rw [← eqvAll_eq xs ys, ← c1, ← c2]
      exact RcAt.tuples ql qm u0 he
theorem rc_ne {d e : PyData} {A : Around} {s : Shared} {a b : Value} {as bs : List Addr} (ra : Reads s.heap a d as) (rb : Reads s.heap b e bs) (zd : noDic d = true) (ze : noDic e = true)
    (hu : A.units + min d.depth e.depth < cLine) : RcNeAt A s a b (!PyData.eqv d e) := by
  have u0 := room_here hu
  cases ra with
  | none =>
    cases rb with
    | none => exact RcNeAt.none_none
    | bool y => exact RcNeAt.none_bool y
    | int y u => exact RcNeAt.none_int y u
    | str y u => exact RcNeAt.none_str y u
    | list b1 b2 b3 => exact RcNeAt.none_list ⟨_, b1, b2, _, b3⟩ u0
    | tuple b1 b2 b3 => exact RcNeAt.none_tuple ⟨_, b1, b2, _, b3⟩ u0
    | dict => exact nomatch ze
  | bool x =>
    cases rb with
    | none => exact RcNeAt.bool_none x
    | bool y => exact RcNeAt.bool_bool x y
    | int y u => exact RcNeAt.bool_int x y u
    | str y u => exact RcNeAt.bool_str x y u
    | list b1 b2 b3 => exact RcNeAt.bool_list x ⟨_, b1, b2, _, b3⟩ u0
    | tuple b1 b2 b3 => exact RcNeAt.bool_tuple x ⟨_, b1, b2, _, b3⟩ u0
    | dict => exact nomatch ze
  | int x t =>
    cases rb with
    | none => exact RcNeAt.int_none x t
    | bool y => exact RcNeAt.int_bool x t y
    | int y u => exact RcNeAt.int_int x t y u
    | str y u => exact RcNeAt.int_str x t y u
    | list b1 b2 b3 => exact RcNeAt.int_list x t ⟨_, b1, b2, _, b3⟩ u0
    | tuple b1 b2 b3 => exact RcNeAt.int_tuple x t ⟨_, b1, b2, _, b3⟩ u0
    | dict => exact nomatch ze
  | str x t =>
    cases rb with
    | none => exact RcNeAt.str_none x t
    | bool y => exact RcNeAt.str_bool x t y
    | int y u => exact RcNeAt.str_int x t y u
    | str y u => exact RcNeAt.str_str x t y u
    | list b1 b2 b3 => exact RcNeAt.str_list x t ⟨_, b1, b2, _, b3⟩ u0
    | tuple b1 b2 b3 => exact RcNeAt.str_tuple x t ⟨_, b1, b2, _, b3⟩ u0
    | dict => exact nomatch ze
  | dict => exact nomatch zd
  | @list l _ vs _ xs _ a1 a2 a3 a4 =>
    have ql : s.heap.IsList l vs := ⟨_, a1, a2, _, a3⟩
    cases rb with
    | none => exact RcNeAt.list_none ql u0
    | bool y => exact RcNeAt.list_bool y ql u0
    | int y u => exact RcNeAt.list_int y u ql u0
    | str y u => exact RcNeAt.list_str y u ql u0
    | tuple b1 b2 b3 => exact RcNeAt.list_tuple ql ⟨_, b1, b2, _, b3⟩ u0
    | dict => exact nomatch ze
    | @list m _ ws _ ys _ b1 b2 b3 b4 =>
      have qm : s.heap.IsList m ws := ⟨_, b1, b2, _, b3⟩
      have c1 : vs.size = xs.length := by have := ReadsAll.length _ _ _ a4; simpa using this
      have c2 : ws.size = ys.length := by have := ReadsAll.length _ _ _ b4; simpa using this
      have he : ∀ j (h1 : j < vs.size) (h2 : j < ws.size), EqAt A.in1 s vs[j] ws[j] (pairEq xs ys j) := fun j j1 j2 => eqs_at xs ys A.in1 s vs.toList ws.toList _ _ a4 b4 zd ze (room_in hu) j (by simpa using j1) (by simpa using j2)
      change RcNeAt A s _ _ (!PyData.eqvAll xs ys)
      by_cases z : vs.size = ws.size
      · rw [← eqvAll_same_length (by omega : xs.length = ys.length), ← c1]
        exact RcNeAt.lists ql qm z u0 he
      · rw [eqvAll_other_length (by omega : xs.length ≠ ys.length)]
        exact RcNeAt.lists_lengths ql qm (by simpa using z) u0
  | @tuple l _ vs _ xs _ a1 a2 a3 a4 =>
    have ql : s.heap.IsTuple l vs := ⟨_, a1, a2, _, a3⟩
    cases rb with
    | none => exact RcNeAt.tuple_none ql u0
    | bool y => exact RcNeAt.tuple_bool y ql u0
    | int y u => exact RcNeAt.tuple_int y u ql u0
    | str y u => exact RcNeAt.tuple_str y u ql u0
    | list b1 b2 b3 => exact RcNeAt.tuple_list ql ⟨_, b1, b2, _, b3⟩ u0
    | dict => exact nomatch ze
    | @tuple m _ ws _ ys _ b1 b2 b3 b4 =>
      have qm : s.heap.IsTuple m ws := ⟨_, b1, b2, _, b3⟩
      have c1 : vs.size = xs.length := by have := ReadsAll.length _ _ _ a4; simpa using this
      have c2 : ws.size = ys.length := by have := ReadsAll.length _ _ _ b4; simpa using this
      have he : ∀ j (h1 : j < vs.size) (h2 : j < ws.size), EqAt A.in1 s vs[j] ws[j] (pairEq xs ys j) := fun j j1 j2 => eqs_at xs ys A.in1 s vs.toList ws.toList _ _ a4 b4 zd ze (room_in hu) j (by simpa using j1) (by simpa using j2)
      change RcNeAt A s _ _ (!PyData.eqvAll xs ys)
      rw [← eqvAll_eq xs ys, ← c1, ← c2]
      exact RcNeAt.tuples ql qm u0 he
end Pv


/-! operators over data -/
namespace Pv
open PySem PySem.Spec L2
open PyProof.Rows hiding St

/-! ### the reading side: Inv gives the library's Reads -/
section
variable {X : Cx} {pins : List (Addr × Obj)} {σ : St} {H : Hp} {s : Shared} {F : Addr → Prop}
theorem Rb.reads (I : Inv X pins σ H s) {d : PyData} {v : V} {u : Value} (z : noDic d = true) (h : Rb X.K F H d v) (r : RelV v u) : ∃ as, Reads s.heap u d as := Dp.reads I d v u (h.dp z) r
end
/-! a larger F, of what was not there -/
section
variable {K : PySem.W.Frag} {F F' : Addr → Prop} {H : Hp}
theorem rd_there {a : Addr} {o : HO} (h : Rd H a o) : ∃ u, H a = some u := by
  rcases h with h | ⟨u, h⟩
  · exact ⟨_, h⟩
  · exact ⟨_, h⟩
theorem grow1 {a : Addr} {o : HO} (hF : ∀ a, F' a → F a ∨ H a = none) (nf : ¬ F a) (q : Rd H a o) : ¬ F' a := fun z => by
  rcases hF a z with z | z
  · exact nf z
  · obtain ⟨u, hu⟩ := rd_there q
    rw [z] at hu; cases hu
mutual
theorem Rp.grow (hF : ∀ a, F' a → F a ∨ H a = none) : ∀ (d : PyData) (v : V), Rp K F H d v → Rp K F' H d v
  | .none, _, h => h
  | .bool _, _, h => h
  | .int _, _, h => h
  | .str _, _, h => h
  | .list ds, _, ⟨a, vs, e, nf, q, r⟩ => ⟨a, vs, e, grow1 hF nf q, q, Rps.grow hF ds vs r⟩
  | .tuple ds, _, ⟨a, vs, e, q, r⟩ => ⟨a, vs, e, q, Rps.grow hF ds vs r⟩
  | .dict kvs, _, ⟨a, vs, o, e, nf, q, c, r⟩ => ⟨a, vs, o, e, fun z => (hF a z).elim nf fun z => by (rw [z] at q; cases q), q, c, Rpk.grow hF kvs vs r⟩
theorem Rps.grow (hF : ∀ a, F' a → F a ∨ H a = none) : ∀ (ds : List PyData) (vs : List V), Rps K F H ds vs → Rps K F' H ds vs
  | [], _, h => h
  | d :: ds, _, ⟨v, r, e, h1, h2⟩ => ⟨v, r, e, Rp.grow hF d v h1, Rps.grow hF ds r h2⟩
theorem Rpk.grow (hF : ∀ a, F' a → F a ∨ H a = none) : ∀ (ds : List (PyData × PyData)) (vs : List V), Rpk K F H ds vs → Rpk K F' H ds vs
  | [], _, h => h
  | (_, d) :: ds, _, ⟨v, r, e, h1, h2⟩ => ⟨v, r, e, Rp.grow hF d v h1, Rpk.grow hF ds r h2⟩
end
end
theorem OwR.grow {K : PySem.W.Frag} {F F' : Addr → Prop} {H : Hp} {d : PyData} {a : Addr} (hF : ∀ a, F' a → F a ∨ H a = none) (h : OwR K F H d a) : OwR K F' H d a := by
  cases d with
  | list ds => obtain ⟨vs, e, r⟩ := h; exact ⟨vs, e, Rps.grow hF _ _ r⟩
  | dict kvs => obtain ⟨vs, o, e, c, r⟩ := h; exact ⟨vs, o, e, c, Rpk.grow hF _ _ r⟩
  | _ => exact False.elim h
/-- the lists that an operation hands back are new -/
def Nw (K : PySem.W.Frag) (H : Hp) (F : Addr → Prop) (H' : Hp) : PyData → V → Prop
  | .list ds, v => ∃ p vs, v = .ref p ∧ H p = none ∧ H' p = some (.lst vs) ∧ Rps K (fun a => F a ∨ a = p) H' ds vs
  | .dict kvs, v => ∃ p vs o, v = .ref p ∧ H p = none ∧ H' p = some o ∧ DcO (kvs.map (·.1)) vs o ∧ Rpk K (fun a => F a ∨ a = p) H' kvs vs
  | d, v => Rp K F H' d v
def Trk (F : Addr → Prop) (H : Hp) : Prop := ∀ a, F a → Mut (H a)
theorem Trk.same {F : Addr → Prop} {H H' : Hp} (t : Trk F H) (s : Same H H') : Trk F H' := fun a h => by
  have m := t a h
  obtain ⟨o, e⟩ := mut_some m
  rw [s _ _ e, ← e]
  exact m
theorem Trk.new {F : Addr → Prop} {H : Hp} (t : Trk F H) {p : Addr} (h : H p = none) : ¬ F p := fun z => by
  have m := t p z
  rw [h] at m
  exact m
theorem Nw.rp {K : PySem.W.Frag} {H H' : Hp} {F : Addr → Prop} {d : PyData} {v : V} (t : Trk F H) (h : Nw K H F H' d v) : Rp K F H' d v := by
  cases d with
  | list ds => obtain ⟨p, vs, e, n, q, r⟩ := h; exact ⟨p, vs, e, t.new n, .inl q, r.less fun a z => .inl z⟩
  | dict kvs => obtain ⟨p, vs, o, e, n, q, c, r⟩ := h; exact ⟨p, vs, o, e, t.new n, q, c, r.less fun a z => .inl z⟩
  | _ => exact h
/-- not a list, not a dict -/
def plainV : PyData → Bool
  | .list _ | .dict _ => false
  | _ => true
theorem Nw.of {K : PySem.W.Frag} {H H' : Hp} {F : Addr → Prop} {d : PyData} {v : V} (h : Rp K F H' d v) (hd : plainV d = true) : Nw K H F H' d v := by
  cases d with
  | list ds => cases hd
  | dict ds => cases hd
  | _ => exact h
/-- a new list or dict, as a thing of one's own -/
theorem Nw.own {K : PySem.W.Frag} {H H' : Hp} {F : Addr → Prop} {d : PyData} {v : V} (h : Nw K H F H' d v) (hd : plainV d = false) : ∃ p, v = .ref p ∧ H p = none ∧ OwR K (fun a => F a ∨ a = p) H' d p := by
  cases d with
  | list ds => obtain ⟨p, vs, e, n, q, r⟩ := h; exact ⟨p, e, n, vs, q, r⟩
  | dict kvs => obtain ⟨p, vs, o, e, n, q, c, r⟩ := h; exact ⟨p, e, n, vs, o, q, c, r⟩
  | _ => cases hd
theorem same_upd {H : Hp} {p : Addr} {o : HO} (n : H p = none) : Same H (upd H p o) := fun a u e => by rw [upd_ne (ne_of_none e n)]; exact e

theorem Nw.mk {K : PySem.W.Frag} {H : Hp} {F : Addr → Prop} {ds : List PyData} {vs : List V} {p : Addr} (n : H p = none) (r : Rps K F H ds vs) : Nw K H F (upd H p (.lst vs)) (.list ds) (.ref p) :=
  ⟨p, vs, rfl, n, upd_same, Rps.same (Rps.grow (fun a z => z.imp id fun z => by subst z; exact n) ds vs r) (same_upd n)⟩
/-- a rule by data: g is what is reckoned -/
def rD (K : PySem.W.Frag) (g : PyData → PyData → R PyData) : R2 := fun x y H Q => ∃ F d e r, Trk F H ∧ Rb K F H d x ∧ Rb K F H e y ∧ g d e = .ok r ∧ ∀ v H', Same H H' → Nw K H F H' r v → Q v H'
/-- .. of one datum -/
def rD1 (K : PySem.W.Frag) (g : PyData → R PyData) : V → Hp → VK → Prop := fun x H Q => ∃ F d r, Trk F H ∧ Rb K F H d x ∧ g d = .ok r ∧ ∀ v H', Same H H' → Nw K H F H' r v → Q v H'


def addD : PyData → PyData → R PyData
  | .int i, .int j => .ok (.int (i + j))
  | .str a, .str b => if a.length + b.length ≤ sizeLine then .ok (.str (a ++ b)) else .bad
  | .list a, .list b => if a.length + b.length ≤ sizeLine then .ok (.list (a ++ b)) else .bad
  | .tuple a, .tuple b => if a.length + b.length ≤ sizeLine then .ok (.tuple (a ++ b)) else .bad
  | _, _ => .bad
def subD : PyData → PyData → R PyData
  | .int i, .int j => .ok (.int (i - j))
  | _, _ => .bad
def mulD : PyData → PyData → R PyData
  | .int i, .int j => if (i.natAbs < 2 ^ 64 ∨ j.natAbs < 2 ^ 64) ∨ i.natAbs.log2 + j.natAbs.log2 < 1000000 then .ok (.int (i * j)) else .bad
  | .list xs, .int k => if k.natAbs < 2 ^ 63 ∧ xs.length * k.toNat ≤ sizeLine then .ok (.list (List.replicate k.toNat xs).flatten) else .bad
  | _, _ => .bad
def fdivD : PyData → PyData → R PyData
  | .int i, .int j => if 0 < j ∧ j.natAbs.log2 < 9000 then .ok (.int (i / j)) else .bad
  | _, _ => .bad
def modD : PyData → PyData → R PyData
  | .int i, .int j => if 0 < j then .ok (.int (i % j)) else .bad
  | _, _ => .bad
def powD : PyData → PyData → R PyData
  | .int i, .int j => if 0 ≤ j ∧ j ≤ 1000000 ∧ i.natAbs < 2 ^ 64 then .ok (.int (i ^ j.toNat)) else .bad
  | _, _ => .bad
theorem rd_ints {K : PySem.W.Frag} {F : Addr → Prop} {H : Hp} {i : Int} {x : V} (h : Rb K F H (.int i) x) : x = .int i := h
theorem rd_strs {K : PySem.W.Frag} {F : Addr → Prop} {H : Hp} {i : Str} {x : V} (h : Rb K F H (.str i) x) : x = .str i := h
section
variable {X : Cx}
/-- a list of the ledger or a locked one -/
theorem Inv.exactL {pins : List (Addr × Obj)} {σ : St} {H : Hp} {s : Shared} {a : Addr} {xs : List V} (I : Inv X pins σ H s) (h : Rd H a (.lst xs)) :
    xs.length ≤ sizeLine ∧ ∃ (its : List Value) (n : Nat), Vals xs its ∧ s.heap.get? a = some { cls := .type "list", data := .seq its.toArray n } := by
  obtain ⟨z, its, n, r, e⟩ := h.ok I.hok
  exact ⟨z, its, n, r, e⟩

theorem op_addL : OpR X (binaryOp .Add) (fun x y H Q => ∃ l b xs zs, x = .ref l ∧ y = .ref b ∧ Rd H l (.lst xs) ∧ Rd H b (.lst zs) ∧ xs.length + zs.length ≤ sizeLine ∧ ∀ p, H p = none → Q (.ref p) (upd H p (.lst (xs ++ zs)))) := by
  intro pins s σ H x y v u Q I rx ry h
  obtain ⟨l, b, xs, zs, rfl, rfl, h1, h2, hz, q⟩ := h
  cases rx; cases ry
  obtain ⟨_, its, n, r, e⟩ := Inv.exactL I h1
  obtain ⟨_, jts, m, t, g⟩ := Inv.exactL I h2
  have c1 := r.length
  have c2 := t.length
  refine PySem.P.add_list e g ?_ (by simp only [List.size_toArray]; omega)
  rw [List.append_toArray]
  exact ⟨.ref _, _, I.lnew (t' := s.toks) (r.append t) (by rw [List.length_append]; exact hz), rfl, q _ I.fresh⟩
theorem opd_add : OpR X (binaryOp .Add) (rD X.K addD) := by
  intro pins s σ H x y v u Q I rx ry h
  obtain ⟨F, d, e, r, tr, hd, he, hg, q⟩ := h
  cases d <;> cases e <;> first | (refine absurd hg ?_; intro z; cases z; done) | skip
  · cases hg
    exact op_add pins s σ H x y v u Q I rx ry ⟨_, _, rd_ints hd, rd_ints he, q _ _ (Same.refl H) rfl⟩
  · simp only [addD] at hg
    split at hg
    · cases hg
      rename_i hz
      exact op_add_str pins s σ H x y v u Q I rx ry ⟨_, _, rd_strs hd, rd_strs he, hz, q _ _ (Same.refl H) rfl⟩
    · cases hg
  · simp only [addD] at hg
    split at hg
    · cases hg
      rename_i hz
      obtain ⟨a, vs, rfl, q1, r1⟩ := hd
      obtain ⟨b, ws, rfl, q2, r2⟩ := he
      have c1 := r1.length
      have c2 := r2.length
      exact op_addL pins s σ H _ _ v u Q I rx ry ⟨a, b, vs, ws, rfl, rfl, q1, q2, by omega, fun p np => q _ _ (same_upd np) (Nw.mk np (r1.append r2))⟩
    · cases hg
  · simp only [addD] at hg
    split at hg
    · cases hg
      rename_i hz
      obtain ⟨a, vs, rfl, q1, r1⟩ := hd
      obtain ⟨b, ws, rfl, q2, r2⟩ := he
      have c1 := r1.length
      have c2 := r2.length
      refine op_catA pins s σ H _ _ v u Q I rx ry ⟨a, b, vs, ws, rfl, rfl, q1, q2, by omega, fun z => ?_, fun z1 z2 => ?_, fun z1 z2 p np => ?_⟩
      · subst z
        have e0 := List.eq_nil_of_length_eq_zero c1
        subst e0
        exact q _ _ (Same.refl H) ⟨b, ws, rfl, q2, r2⟩
      · subst z2
        have e0 := List.eq_nil_of_length_eq_zero c2
        subst e0
        exact q _ _ (Same.refl H) ⟨a, vs, rfl, q1, by rw [List.append_nil]; exact r1⟩
      · exact q _ _ (same_upd np) ⟨p, vs ++ ws, rfl, SqT.of upd_same, (r1.same (same_upd np)).append (r2.same (same_upd np))⟩
    · cases hg
theorem opd_sub : OpR X (binaryOp .Sub) (rD X.K subD) := by
  intro pins s σ H x y v u Q I rx ry h
  obtain ⟨F, d, e, r, tr, hd, he, hg, q⟩ := h
  cases d <;> cases e <;> first | (refine absurd hg ?_; intro z; cases z; done) | skip
  cases hg
  exact op_sub pins s σ H x y v u Q I rx ry ⟨_, _, rd_ints hd, rd_ints he, q _ _ (Same.refl H) rfl⟩
theorem opd_fdiv : OpR X (binaryOp .FloorDiv) (rD X.K fdivD) := by
  intro pins s σ H x y v u Q I rx ry h
  obtain ⟨F, d, e, r, tr, hd, he, hg, q⟩ := h
  cases d <;> cases e <;> first | (refine absurd hg ?_; intro z; cases z; done) | skip
  simp only [fdivD] at hg
  split at hg
  · cases hg
    rename_i hz
    exact op_fdivW pins s σ H x y v u Q I rx ry ⟨_, _, rd_ints hd, rd_ints he, hz, q _ _ (Same.refl H) rfl⟩
  · cases hg
theorem opd_mod : OpR X (binaryOp .Mod) (rD X.K modD) := by
  intro pins s σ H x y v u Q I rx ry h
  obtain ⟨F, d, e, r, tr, hd, he, hg, q⟩ := h
  cases d <;> cases e <;> first | (refine absurd hg ?_; intro z; cases z; done) | skip
  simp only [modD] at hg
  split at hg
  · cases hg
    rename_i hz
    exact op_mod pins s σ H x y v u Q I rx ry ⟨_, _, rd_ints hd, rd_ints he, hz, q _ _ (Same.refl H) rfl⟩
  · cases hg
theorem opd_pow : OpR X (binaryOp .Pow) (rD X.K powD) := by
  intro pins s σ H x y v u Q I rx ry h
  obtain ⟨F, d, e, r, tr, hd, he, hg, q⟩ := h
  cases d <;> cases e <;> first | (refine absurd hg ?_; intro z; cases z; done) | skip
  simp only [powD] at hg
  split at hg
  · cases hg
    rename_i hz
    exact op_pow pins s σ H x y v u Q I rx ry ⟨_, _, rd_ints hd, rd_ints he, hz, q _ _ (Same.refl H) rfl⟩
  · cases hg
theorem op_repL : OpR X (binaryOp .Mult) (fun x y H Q => ∃ l k xs, x = .ref l ∧ y = .int k ∧ H l = some (.lst xs) ∧ -(2 ^ 63) ≤ k ∧ k < 2 ^ 63 ∧ xs.length * k.toNat ≤ sizeLine ∧ ∀ p, H p = none → Q (.ref p) (upd H p (.lst (List.replicate k.toNat xs).flatten))) := op_rep
/-- the left is a list of the ledger -/
def rMul (K : PySem.W.Frag) : R2 := fun x y H Q => (∃ l xs, x = .ref l ∧ H l = some (.lst xs) ∧ rD K mulD x y H Q) ∨ (∃ i, x = .int i ∧ rD K mulD x y H Q)
theorem opd_mul : OpR X (binaryOp .Mult) (rMul X.K) := by
  intro pins s σ H x y v u Q I rx ry h
  rcases h with ⟨l, xs, rfl, hl, F, d, e, r, tr, hd, he, hg, q⟩ | ⟨i, rfl, F, d, e, r, tr, hd, he, hg, q⟩
  · cases d <;> cases e <;> first | (refine absurd hg ?_; intro z; cases z; done) | skip
    · cases rd_ints hd
    · simp only [mulD] at hg
      split at hg
      · cases hg
        rename_i hz
        obtain ⟨a, vs, ea, q1, r1⟩ := hd
        cases ea
        have e1 : vs = xs := by
          rcases q1 with q1 | ⟨o, q1⟩
          · rw [hl] at q1; cases q1; rfl
          · rw [hl] at q1; cases q1
        subst e1
        cases rd_ints he
        have c1 := r1.length
        exact op_repL pins s σ H _ _ v u Q I rx ry ⟨l, _, vs, rfl, rfl, hl, by have := hz.1; omega, by have := hz.1; omega, by rw [← c1]; exact hz.2, fun p np => q _ _ (same_upd np) (Nw.mk np (r1.rep _))⟩
      · cases hg
  · cases d <;> cases e <;> first | (refine absurd hg ?_; intro z; cases z; done) | skip
    · simp only [mulD] at hg
      split at hg
      · cases hg
        rename_i hz
        cases rd_ints hd
        cases rd_ints he
        rcases hz with hz | hz
        · refine op_mul pins s σ H _ _ v u Q I rx ry ⟨_, _, rfl, rfl, ?_, q _ _ (Same.refl H) rfl⟩
          rcases hz with hz | hz
          · exact .inl (by omega)
          · exact .inr (by omega)
        · exact op_mulW pins s σ H _ _ v u Q I rx ry ⟨_, _, rfl, rfl, hz, q _ _ (Same.refl H) rfl⟩
      · cases hg
    · obtain ⟨a, vs, ea, q1, r1⟩ := hd
      cases ea
end
end Pv


/-! dicts as data: keys are ints and texts, or tuples of them -/
namespace Pv
open PySem PySem.Spec L2
open PyProof.Rows hiding St

def keyK : PyData → Option Key
  | .int i => some (.inl i)
  | .str x => some (.inr x)
  | _ => none
def keysK : List PyData → Option (List Key)
  | [] => some []
  | d :: ds => match keyK d, keysK ds with
    | some k, some ks => some (k :: ks)
    | _, _ => none
def keyT : PyData → Option (List Key)
  | .tuple ds => keysK ds
  | _ => none
theorem keyK_kD (k : Key) : keyK (kD k) = some k := by cases k <;> rfl
theorem keysK_kD : ∀ ks : List Key, keysK (ks.map kD) = some ks
  | [] => rfl
  | k :: ks => by
    show (match keyK (kD k), keysK (ks.map kD) with | some k, some ks => some (k :: ks) | _, _ => none) = _
    rw [keyK_kD, keysK_kD ks]
theorem keyT_kTD (k : List Key) : keyT (kTD k) = some k := keysK_kD k
theorem keyK_is {d : PyData} {k : Key} (h : keyK d = some k) : d = kD k := by
  cases d <;> first | (cases h; rfl) | cases h
theorem keysK_is : ∀ {ds : List PyData} {ks : List Key}, keysK ds = some ks → ds = ks.map kD
  | [], _, h => by cases h; rfl
  | d :: ds, ks, h => by
    have h : (match keyK d, keysK ds with | some k, some ks => some (k :: ks) | _, _ => none) = some ks := h
    cases h1 : keyK d with
    | none => rw [h1] at h; cases h
    | some k =>
      cases h2 : keysK ds with
      | none => rw [h1, h2] at h; cases h
      | some r =>
        rw [h1, h2] at h
        cases h
        rw [keyK_is h1, keysK_is h2]; rfl
theorem keyT_is {d : PyData} {k : List Key} (h : keyT d = some k) : d = kTD k := by
  cases d with
  | tuple ds => rw [keysK_is (show keysK ds = some k from h)]; rfl
  | _ => cases h
theorem keyT_K {d : PyData} {k : Key} (h : keyK d = some k) : keyT d = none := by rw [keyK_is h]; cases k <;> rfl
theorem keyK_T {d : PyData} {k : List Key} (h : keyT d = some k) : keyK d = none := by rw [keyT_is h]; rfl
/-! what a dict holds, by any kind of key -/
section
variable {κ : Type} [DecidableEq κ]
def fndG (dec : PyData → Option κ) (k : κ) : List (PyData × PyData) → Option PyData
  | [] => none
  | p :: r => if dec p.1 = some k then some p.2 else fndG dec k r
def putG (dec : PyData → Option κ) (enc : κ → PyData) (k : κ) (v : PyData) (kvs : List (PyData × PyData)) : List (PyData × PyData) :=
  if (fndG dec k kvs).isSome = true then kvs.map fun p => if dec p.1 = some k then (p.1, v) else p else kvs ++ [(enc k, v)]
variable {K : PySem.W.Frag} {F : Addr → Prop} {H : Hp} {dec : PyData → Option κ} {enc : κ → PyData}
theorem fnd_rel (hde : ∀ k, dec (enc k) = some k) (k : κ) : ∀ {kvs : List (PyData × PyData)} {ks : List κ} {vs : List V}, kvs.map (·.1) = ks.map enc → Rpk K F H kvs vs →
    match fndG dec k kvs with
    | some d => ∃ v, valV (ks.zip vs) k = some v ∧ Rp K F H d v
    | none => valV (ks.zip vs) k = none
  | [], ks, vs, e, r => by
    have e : [] = ks.map enc := e
    have := (List.map_eq_nil_iff.mp e.symm)
    subst this
    rfl
  | (p, d) :: kvs, ks, vs, e, r => by
    cases ks with
    | nil => cases e
    | cons j ks =>
      rw [List.map_cons, List.map_cons] at e
      injection e with e1 e2
      obtain ⟨v, w, rfl, h1, h2⟩ := r
      have e1 : p = enc j := e1
      subst e1
      show (match (if dec (enc j) = some k then some d else fndG dec k kvs) with | some d => _ | none => _)
      rw [hde]
      by_cases hjk : j = k
      · subst hjk
        rw [if_pos rfl]
        exact ⟨v, valV_pos rfl, h1⟩
      · rw [if_neg (fun z => hjk (Option.some.inj z))]
        have ih := fnd_rel hde k e2 h2
        have e3 : valV ((j, v) :: ks.zip w) k = valV (ks.zip w) k := valV_neg hjk
        show match fndG dec k kvs with
          | some d => ∃ u, valV ((j, v) :: ks.zip w) k = some u ∧ Rp K F H d u
          | none => valV ((j, v) :: ks.zip w) k = none
        rw [e3]
        exact ih
theorem map_rel (hde : ∀ k, dec (enc k) = some k) (k : κ) {d : PyData} {y : V} (q : Rp K F H d y) : ∀ {kvs : List (PyData × PyData)} {ks : List κ} {vs : List V}, kvs.map (·.1) = ks.map enc → Rpk K F H kvs vs →
    ∃ ws, (ks.zip vs).map (fun kv => if kv.1 = k then (kv.1, y) else kv) = ks.zip ws ∧ Rpk K F H (kvs.map fun p => if dec p.1 = some k then (p.1, d) else p) ws
  | [], ks, vs, e, r => by
    have e : [] = ks.map enc := e
    have := (List.map_eq_nil_iff.mp e.symm)
    subst this
    exact ⟨[], rfl, rfl⟩
  | (p, x) :: kvs, ks, vs, e, r => by
    cases ks with
    | nil => cases e
    | cons j ks =>
      rw [List.map_cons, List.map_cons] at e
      injection e with e1 e2
      obtain ⟨v, w, rfl, h1, h2⟩ := r
      have e1 : p = enc j := e1
      subst e1
      obtain ⟨ws, g1, g2⟩ := map_rel hde k q e2 h2
      by_cases hjk : j = k
      · refine ⟨y :: ws, ?_, ?_⟩
        · rw [List.zip_cons_cons, List.map_cons, g1, List.zip_cons_cons]
          rw [if_pos hjk]
        · rw [List.map_cons]
          show Rpk K F H ((if dec (enc j) = some k then (enc j, d) else (enc j, x)) :: _) _
          rw [if_pos (by rw [hde, hjk])]
          exact ⟨y, ws, rfl, q, g2⟩
      · refine ⟨v :: ws, ?_, ?_⟩
        · rw [List.zip_cons_cons, List.map_cons, g1, List.zip_cons_cons]
          rw [if_neg hjk]
        · rw [List.map_cons]
          show Rpk K F H ((if dec (enc j) = some k then (enc j, d) else (enc j, x)) :: _) _
          rw [if_neg (by rw [hde]; exact fun z => hjk (Option.some.inj z))]
          exact ⟨v, ws, rfl, h1, g2⟩
theorem map_keys {dec : PyData → Option κ} (k : κ) (d : PyData) (kvs : List (PyData × PyData)) : (kvs.map fun p => if dec p.1 = some k then (p.1, d) else p).map (·.1) = kvs.map (·.1) := by
  rw [List.map_map]
  apply List.map_congr_left
  intro p _
  show (if dec p.1 = some k then (p.1, d) else p).1 = p.1
  split <;> rfl
theorem Rpk.append : ∀ {ds es : List (PyData × PyData)} {vs ws : List V}, Rpk K F H ds vs → Rpk K F H es ws → Rpk K F H (ds ++ es) (vs ++ ws)
  | [], es, vs, ws, h, g => by have h : vs = [] := h; subst h; exact g
  | (_, d) :: ds, es, vs, ws, h, g => by
    obtain ⟨v, r, e, h1, h2⟩ := h
    subst e
    exact ⟨v, r ++ ws, rfl, h1, Rpk.append h2 g⟩
theorem keys_len {kvs : List (PyData × PyData)} {ks : List κ} {vs : List V} (e : kvs.map (·.1) = ks.map enc) (r : Rpk K F H kvs vs) : ks.length = vs.length := by
  have h1 := congrArg List.length e
  have h2 := r.length
  rw [List.length_map, List.length_map] at h1
  omega
theorem put_rel (hde : ∀ k, dec (enc k) = some k) (k : κ) {d : PyData} {y : V} (q : Rp K F H d y) {kvs : List (PyData × PyData)} {ks : List κ} {vs : List V} (e : kvs.map (·.1) = ks.map enc) (r : Rpk K F H kvs vs) :
    ∃ (js : List κ) (ws : List V), putK (ks.zip vs) k y = js.zip ws ∧ (putG dec enc k d kvs).map (·.1) = js.map enc ∧ Rpk K F H (putG dec enc k d kvs) ws := by
  have hf := fnd_rel hde k e r
  have hl := keys_len e r
  unfold putG putK
  rw [valV_any]
  cases h : fndG dec k kvs with
  | some x =>
    rw [h] at hf
    obtain ⟨v, hv, _⟩ := hf
    rw [hv]
    simp only [Option.isSome_some, if_true]
    obtain ⟨ws, g1, g2⟩ := map_rel hde k q e r
    exact ⟨ks, ws, g1, by rw [map_keys]; exact e, g2⟩
  | none =>
    rw [h] at hf
    have hf : valV (ks.zip vs) k = none := hf
    rw [hf]
    simp only [Option.isSome_none, Bool.false_eq_true, if_false]
    refine ⟨ks ++ [k], vs ++ [y], ?_, ?_, Rpk.append r ⟨y, [], rfl, q, rfl⟩⟩
    · rw [List.zip_append hl]; rfl
    · rw [List.map_append, List.map_append, e]; rfl
theorem putG_len (k : κ) (d : PyData) (kvs : List (PyData × PyData)) : (putG dec enc k d kvs).length ≤ kvs.length + 1 := by
  unfold putG
  split
  · rw [List.length_map]; omega
  · rw [List.length_append]; exact Nat.le_refl _
end
/-! the data's own words -/
def allK (kvs : List (PyData × PyData)) : Bool := kvs.all fun p => (keyK p.1).isSome
def allT (kvs : List (PyData × PyData)) : Bool := kvs.all fun p => (keyT p.1).isSome
def getKD (kvs : List (PyData × PyData)) (k : PyData) : R (Option PyData) := match keyK k with
  | some k => if allK kvs = true then .ok (fndG keyK k kvs) else .bad
  | none => match keyT k with
    | some k => if allT kvs = true then .ok (fndG keyT k kvs) else .bad
    | none => .bad
theorem dco_K {ks : List PyData} {vs : List V} {o : HO} (h : DcO ks vs o) (ha : ∀ k ∈ ks, (keyK k).isSome = true) : ∃ κ : List Key, ks = κ.map kD ∧ o = .dK (κ.zip vs) := by
  rcases h with h | ⟨hn, κ, e, _⟩
  · exact h
  · cases κ with
    | nil => exact absurd e hn
    | cons k κ =>
      have := ha (kTD k) (by rw [e]; exact List.mem_cons_self)
      cases this
theorem dco_T {ks : List PyData} {vs : List V} {o : HO} (h : DcO ks vs o) (ha : ∀ k ∈ ks, (keyT k).isSome = true) : (ks = [] ∧ o = .dK []) ∨ ∃ κ : List (List Key), ks = κ.map kTD ∧ o = .dT (κ.zip vs) := by
  rcases h with ⟨κ, e, ho⟩ | ⟨hn, h⟩
  · cases κ with
    | nil => exact .inl ⟨e, ho⟩
    | cons k κ =>
      have := ha (kD k) (by rw [e]; exact List.mem_cons_self)
      cases k <;> cases this
  · exact .inr h
section
variable {X : Cx} {pins : List (Addr × Obj)} {σ : St} {H : Hp} {s : Shared} {F : Addr → Prop}
theorem rb_key {K : PySem.W.Frag} {d : PyData} {k : Key} {y : V} (h : keyK d = some k) (r : Rb K F H d y) : y = kV k := by
  cases d with
  | int i => cases h; exact r
  | str i => cases h; exact r
  | _ => cases h
theorem rps_keys {K : PySem.W.Frag} : ∀ {ks : List Key} {vs : List V}, Rps K F H (ks.map kD) vs → vs = ks.map kV
  | [], vs, h => h
  | k :: ks, vs, h => by
    obtain ⟨v, r, rfl, h1, h2⟩ := h
    rw [rps_keys h2]
    cases k <;> rw [show v = _ from h1] <;> rfl
/-- a tuple at hand is a key -/
theorem key_at (I : Inv X pins σ H s) {k : List Key} {y : V} (r : Rb X.K F H (kTD k) y) : ∃ b, y = .ref b ∧ (tupleKind (mixKind X.prog X.w)).is s.heap k b := by
  obtain ⟨b, vs, e, q, r⟩ := r
  obtain ⟨its, rv, pl, _⟩ := I.tuple q
  rw [rps_keys r] at rv
  obtain ⟨o, h1, h2, n, h3⟩ := pl
  exact ⟨b, e, o, its.toArray, n, h1, h2, h3, by simpa using items_are rv⟩
/-- a dict without entries is of either kind -/
theorem dk_nil_t {P : Program} {w : World} {h : Heap} {a : Addr} {vs : List (Key × Value)} (d : h.DictOf (mixKind P w) a vs) (hv : vs = []) : h.DictOfH (tupleKind (mixKind P w)) a [] := by
  subst hv
  obtain ⟨o, es, ep, h1, h2, h3, _, h5, _⟩ := d
  refine ⟨o, es, ep, h1, h2, h3, ?_, by simp, by simp⟩
  cases hes : es.toList with
  | nil => rfl
  | cons e r => rw [hes] at h5; cases h5
/-- what stands at a key -/
def Look (X : Cx) (s : Shared) (a : Addr) (u : Value) (o : Option Value) : Prop :=
  (a == sysModules) = false ∧ ((∃ vs k, (mixKind X.prog X.w).is k u = true ∧ s.heap.DictOf (mixKind X.prog X.w) a vs ∧ o = valueAt vs k) ∨
    ∃ xs k b, u = .ref b ∧ (tupleKind (mixKind X.prog X.w)).is s.heap k b ∧ s.heap.DictOfH (tupleKind (mixKind X.prog X.w)) a xs ∧ o = (atKey xs k).map (·.2))
def RelD (X : Cx) (F : Addr → Prop) (H : Hp) : Option PyData → Option Value → Prop
  | none, none => True
  | some d, some w => ∃ v, RelV v w ∧ Rp X.K F H d v
  | _, _ => False
theorem relD_of {d : Option PyData} {v : Option V} {w : Option Value} (h : match d with | some d => ∃ x, v = some x ∧ Rp X.K F H d x | none => v = none) (r : RelO v w) : RelD X F H d w := by
  cases d with
  | none =>
    have h : v = none := h
    subst h
    cases w with
    | none => trivial
    | some w => exact False.elim r
  | some d =>
    obtain ⟨x, rfl, q⟩ := h
    cases w with
    | none => exact False.elim r
    | some w => exact ⟨x, r, q⟩
theorem look_of (I : Inv X pins σ H s) {kvs : List (PyData × PyData)} {key : PyData} {x y : V} {u : Value} {r : Option PyData} (hb : Rb X.K F H (.dict kvs) x) (hk : Rb X.K F H key y) (ry : RelV y u) (g : getKD kvs key = .ok r) :
    ∃ a o, x = .ref a ∧ Look X s a u o ∧ RelD X F H r o := by
  obtain ⟨a, vs, ob, rfl, e, c, rk⟩ := hb
  unfold getKD at g
  cases h1 : keyK key with
  | some k =>
    rw [h1] at g
    dsimp only at g
    split at g
    · rename_i ha
      cases g
      obtain ⟨κ, e1, rfl⟩ := dco_K c (fun p hp => by
        obtain ⟨q, hq, rfl⟩ := List.mem_map.mp hp
        exact List.all_eq_true.mp ha q hq)
      obtain ⟨_, hd, us, rel, dd⟩ := dk_of I.hok e
      have hy := rb_key h1 hk
      subst hy
      exact ⟨a, _, rfl, ⟨hd, .inl ⟨us, k, kV_is ry, dd, rfl⟩⟩, relD_of (fnd_rel keyK_kD k e1 rk) (rel.val k)⟩
    · cases g
  | none =>
    rw [h1] at g
    dsimp only at g
    cases h2 : keyT key with
    | none => rw [h2] at g; cases g
    | some k =>
      rw [h2] at g
      dsimp only at g
      split at g
      · rename_i ha
        cases g
        rw [keyT_is h2] at hk
        obtain ⟨b, rfl, kis⟩ := key_at I hk
        cases (show u = Value.ref b from ry)
        rcases dco_T c (fun p hp => by
          obtain ⟨q, hq, rfl⟩ := List.mem_map.mp hp
          exact List.all_eq_true.mp ha q hq) with ⟨e1, rfl⟩ | ⟨κ, e1, rfl⟩
        · obtain ⟨_, hd, us, rel, dd⟩ := dk_of I.hok e
          have hus : us = [] := by cases rel; rfl
          have hkv : kvs = [] := List.map_eq_nil_iff.mp e1
          subst hkv
          exact ⟨a, none, rfl, ⟨hd, .inr ⟨[], k, b, rfl, kis, dk_nil_t dd hus, rfl⟩⟩, trivial⟩
        · obtain ⟨_, hd, us, rel, dd⟩ := dt_of I.hok e
          exact ⟨a, _, rfl, ⟨hd, .inr ⟨us, k, b, rfl, kis, dd, rfl⟩⟩, relD_of (fnd_rel keyT_kTD k e1 rk) (rel.val k)⟩
      · cases g
variable {A : Around} {E : Value → Shared → Prop} {a : Addr} {u : Value} {o : Option Value}
theorem Look.typeIs (l : Look X s a u o) : s.TypeIs (.ref a) "dict" := by
  obtain ⟨hd, ⟨vs, k, hk, dd, rfl⟩ | ⟨xs, k, b, rfl, hk, dd, rfl⟩⟩ := l
  · exact dd.typeIs
  · exact dd.typeIs
theorem look_in {Q : Value → Shared → Prop} (hu : A.units + 1 < cLine) (I : Inv X pins σ H s) (l : Look X s a u o) (h : ∀ s', Inv X pins σ H s' → Q (.bool o.isSome) s') : wpAny (model X.prog X.w) A (compareOp .In u (.ref a)) Q E s := by
  obtain ⟨hd, ⟨vs, k, hk, dd, rfl⟩ | ⟨xs, k, b, rfl, hk, dd, rfl⟩⟩ := l
  · exact wpAny_in_of hk hd dd.mapOf (h _ (I.tok _))
  · refine wpAny_in_heap (tupleKind_room_in1 hu) hk hd dd ?_
    rw [← Option.isSome_map (f := (·.2))]
    exact h _ (I.tok _)
theorem look_notIn {Q : Value → Shared → Prop} (hu : A.units + 1 < cLine) (I : Inv X pins σ H s) (l : Look X s a u o) (h : ∀ s', Inv X pins σ H s' → Q (.bool (!o.isSome)) s') : wpAny (model X.prog X.w) A (compareOp .NotIn u (.ref a)) Q E s := by
  obtain ⟨hd, ⟨vs, k, hk, dd, rfl⟩ | ⟨xs, k, b, rfl, hk, dd, rfl⟩⟩ := l
  · exact wpAny_notIn_of hk hd dd.mapOf (h _ (I.tok _))
  · refine wpAny_notIn_heap (tupleKind_room_in1 hu) hk hd dd ?_
    rw [← Option.isSome_map (f := (·.2))]
    exact h _ (I.tok _)
theorem look_get {w : Value} {Q : Value → Shared → Prop} (hu : A.units + 1 < cLine) (I : Inv X pins σ H s) (l : Look X s a u (some w)) (h : ∀ s', Inv X pins σ H s' → Q w s') : wpAny (model X.prog X.w) A (getItem (.ref a) u) Q E s := by
  obtain ⟨hd, ⟨vs, k, hk, dd, e⟩ | ⟨xs, k, b, rfl, hk, dd, e⟩⟩ := l
  · exact wpAny_getItem_of hk dd.mapOf e.symm (h _ (I.tok _))
  · obtain ⟨p, hp, hp2⟩ := Option.map_eq_some_iff.mp e.symm
    refine wpAny_getItem_heap (tupleKind_room_in1 hu) hk dd hp ?_
    rw [hp2]
    exact h _ (I.tok _)
end
end Pv


/-! comparisons, calls of built-ins over data -/
namespace Pv
open PySem PySem.Spec L2
open PyProof.Rows hiding St
open PySem.W (dataLt alike)

def shal (d e : PyData) : Bool := decide (min d.depth e.depth ≤ 60) && (noDic d && noDic e)
theorem shal_is {d e : PyData} (h : shal d e = true) : min d.depth e.depth ≤ 60 ∧ noDic d = true ∧ noDic e = true := by
  unfold shal at h
  rw [Bool.and_eq_true, Bool.and_eq_true] at h
  exact ⟨of_decide_eq_true h.1, h.2⟩
def eqD (d e : PyData) : R PyData := if shal d e = true then .ok (.bool (PyData.eqv d e)) else .bad
def neD (d e : PyData) : R PyData := if shal d e = true then .ok (.bool (!PyData.eqv d e)) else .bad
def cmpOk (d e : PyData) : Bool := shal d e && (alike d e && (match d with | .none => false | _ => true))
def ltD (d e : PyData) : R PyData := if cmpOk d e = true then .ok (.bool (dataLt d e)) else .bad
def gtD (d e : PyData) : R PyData := if cmpOk d e = true then .ok (.bool (dataLt e d)) else .bad
def leD (d e : PyData) : R PyData := if cmpOk d e = true then .ok (.bool (!dataLt e d)) else .bad
def geD (d e : PyData) : R PyData := if cmpOk d e = true then .ok (.bool (!dataLt d e)) else .bad
def memD (d : PyData) (ds : List PyData) : Bool := ds.any fun z => PyData.eqv z d
def inB (d e : PyData) : R Bool :=
  match e with
  | .list ds | .tuple ds => if (d.depth ≤ 60 ∧ noDic d = true) ∧ noDics ds = true then .ok (memD d ds) else .bad
  | .dict kvs => (getKD kvs d).bind fun r => .ok r.isSome
  | .str z => (match d with
    | .str c => (match c.cps.toList with
      | [k] => .ok (decide (k ∈ z.cps.toList))
      | _ => .bad)
    | _ => .bad)
  | _ => .bad
def inD (d e : PyData) : R PyData := (inB d e).bind fun b => .ok (.bool b)
def notInD (d e : PyData) : R PyData := (inB d e).bind fun b => .ok (.bool (!b))
def isNoneD (d : PyData) : Bool := match d with | .none => true | _ => false
def isD : PyData → PyData → R PyData
  | d, .none => .ok (.bool (isNoneD d))
  | .bool a, .bool b => .ok (.bool (decide (a = b)))
  | _, _ => .bad
def isntD : PyData → PyData → R PyData
  | d, .none => .ok (.bool (!isNoneD d))
  | .bool a, .bool b => .ok (.bool (!decide (a = b)))
  | _, _ => .bad
section
variable {X : Cx}
theorem room60 {u a b : Nat} (hu : u + 64 < cLine) (h : min a b ≤ 60) : u + min a b < cLine := by omega
theorem opd_eq (hu : X.A.units + 64 < cLine) : OpR X (compareOp .Eq) (rD X.K eqD) := by
  intro pins s σ H x y v u Q I rx ry h
  obtain ⟨F, d, e, r, tr, hd, he, hg, q⟩ := h
  unfold eqD at hg
  split at hg
  · rename_i hs
    cases hg
    obtain ⟨h1, z1, z2⟩ := shal_is hs
    obtain ⟨as, r1⟩ := hd.reads I z1 rx
    obtain ⟨bs, r2⟩ := he.reads I z2 ry
    exact rc_eq r1 r2 z1 z2 (room60 hu h1) X.prog X.w X.xe _ ⟨.bl _, H, I, rfl, q _ _ (Same.refl H) rfl⟩
  · cases hg
theorem opd_ne (hu : X.A.units + 64 < cLine) : OpR X (compareOp .NotEq) (rD X.K neD) := by
  intro pins s σ H x y v u Q I rx ry h
  obtain ⟨F, d, e, r, tr, hd, he, hg, q⟩ := h
  unfold neD at hg
  split at hg
  · rename_i hs
    cases hg
    obtain ⟨h1, z1, z2⟩ := shal_is hs
    obtain ⟨as, r1⟩ := hd.reads I z1 rx
    obtain ⟨bs, r2⟩ := he.reads I z2 ry
    exact rc_ne r1 r2 z1 z2 (room60 hu h1) X.prog X.w X.xe _ ⟨.bl _, H, I, rfl, q _ _ (Same.refl H) rfl⟩
  · cases hg
theorem cmpOk_is {d e : PyData} (h : cmpOk d e = true) : (min d.depth e.depth ≤ 60 ∧ noDic d = true ∧ noDic e = true) ∧ alike d e = true ∧ d ≠ .none := by
  unfold cmpOk at h
  rw [Bool.and_eq_true, Bool.and_eq_true] at h
  refine ⟨shal_is h.1, h.2.1, fun z => ?_⟩
  subst z
  exact nomatch h.2.2
theorem opd_lt (hu : X.A.units + 64 < cLine) : OpR X (compareOp .Lt) (rD X.K ltD) := by
  intro pins s σ H x y v u Q I rx ry h
  obtain ⟨F, d, e, r, tr, hd, he, hg, q⟩ := h
  unfold ltD at hg
  split at hg
  · rename_i hs
    cases hg
    obtain ⟨⟨h1, z1, z2⟩, h2, h3⟩ := cmpOk_is hs
    obtain ⟨as, r1⟩ := hd.reads I z1 rx
    obtain ⟨bs, r2⟩ := he.reads I z2 ry
    exact PySem.W.rcLt_alike _ _ X.A s _ _ _ _ r1 r2 h2 h3 (room60 hu h1) X.prog X.w X.xe _ ⟨.bl _, H, I, rfl, q _ _ (Same.refl H) rfl⟩
  · cases hg
theorem opd_gt (hu : X.A.units + 64 < cLine) : OpR X (compareOp .Gt) (rD X.K gtD) := by
  intro pins s σ H x y v u Q I rx ry h
  obtain ⟨F, d, e, r, tr, hd, he, hg, q⟩ := h
  unfold gtD at hg
  split at hg
  · rename_i hs
    cases hg
    obtain ⟨⟨h1, z1, z2⟩, h2, h3⟩ := cmpOk_is hs
    obtain ⟨as, r1⟩ := hd.reads I z1 rx
    obtain ⟨bs, r2⟩ := he.reads I z2 ry
    exact PySem.W.rcGt_alike _ _ X.A s _ _ _ _ r1 r2 h2 h3 (room60 hu h1) X.prog X.w X.xe _ ⟨.bl _, H, I, rfl, q _ _ (Same.refl H) rfl⟩
  · cases hg
theorem opd_le (hu : X.A.units + 64 < cLine) : OpR X (compareOp .LtE) (rD X.K leD) := by
  intro pins s σ H x y v u Q I rx ry h
  obtain ⟨F, d, e, r, tr, hd, he, hg, q⟩ := h
  unfold leD at hg
  split at hg
  · rename_i hs
    cases hg
    obtain ⟨⟨h1, z1, z2⟩, h2, h3⟩ := cmpOk_is hs
    obtain ⟨as, r1⟩ := hd.reads I z1 rx
    obtain ⟨bs, r2⟩ := he.reads I z2 ry
    exact PySem.W.rcLe_alike _ _ X.A s _ _ _ _ r1 r2 h2 h3 (room60 hu h1) X.prog X.w X.xe _ ⟨.bl _, H, I, rfl, q _ _ (Same.refl H) rfl⟩
  · cases hg
theorem opd_ge (hu : X.A.units + 64 < cLine) : OpR X (compareOp .GtE) (rD X.K geD) := by
  intro pins s σ H x y v u Q I rx ry h
  obtain ⟨F, d, e, r, tr, hd, he, hg, q⟩ := h
  unfold geD at hg
  split at hg
  · rename_i hs
    cases hg
    obtain ⟨⟨h1, z1, z2⟩, h2, h3⟩ := cmpOk_is hs
    obtain ⟨as, r1⟩ := hd.reads I z1 rx
    obtain ⟨bs, r2⟩ := he.reads I z2 ry
    exact PySem.W.rcGe_alike _ _ X.A s _ _ _ _ r1 r2 h2 h3 (room60 hu h1) X.prog X.w X.xe _ ⟨.bl _, H, I, rfl, q _ _ (Same.refl H) rfl⟩
  · cases hg
/-! ### in -/
open Classical in
/-- what an item answers -/
noncomputable def ansU (h : Heap) (d : PyData) (w : Value) : Bool := decide (∃ e as, Reads h w e as ∧ noDic e = true ∧ PyData.eqv e d = true)
open Classical in
theorem ansU_of {h : Heap} {d e : PyData} {w : Value} {as : List Addr} (r : Reads h w e as) (z : noDic e = true) : ansU h d w = PyData.eqv e d := by
  unfold ansU
  cases q : PyData.eqv e d with
  | true => exact decide_eq_true ⟨e, as, r, z, q⟩
  | false =>
    refine decide_eq_false ?_
    rintro ⟨e', bs, r', z', q'⟩
    rw [rd_one e e' w as bs z r r'] at q
    rw [q] at q'; cases q'
theorem ansU_any {h : Heap} {d : PyData} : ∀ {ds : List PyData} {us : List Value} {as : List Addr}, ReadsAll h us ds as → noDics ds = true → us.any (ansU h d) = ds.any fun z => PyData.eqv z d
  | [], _, _, r, _ => by cases r; rfl
  | e :: ds, _, _, r, z => by
    cases r with | cons r1 r2 => ?_
    rw [List.any_cons, List.any_cons, ansU_of r1 (noDics_cons z).1, ansU_any r2 (noDics_cons z).2]
theorem ansU_count {h : Heap} {d : PyData} : ∀ {ds : List PyData} {us : List Value} {as : List Addr}, ReadsAll h us ds as → noDics ds = true → us.countP (ansU h d) = ds.countP fun z => PyData.eqv z d
  | [], _, _, r, _ => by cases r; rfl
  | e :: ds, _, _, r, z => by
    cases r with | cons r1 r2 => ?_
    rw [List.countP_cons, List.countP_cons, ansU_of r1 (noDics_cons z).1, ansU_count r2 (noDics_cons z).2]
theorem ansU_eqAt {A : Around} {s : Shared} {d : PyData} {v : Value} {bs : List Addr} (rv : Reads s.heap v d bs) (zd : noDic d = true) (hd : d.depth ≤ 60) (hu : A.units + 64 < cLine) :
    ∀ {ds : List PyData} {us : List Value} {as : List Addr}, ReadsAll s.heap us ds as → noDics ds = true → ∀ u ∈ us, SeqAt.EqAt A s u v (ansU s.heap d u)
  | [], _, _, r, _, u, hm => by cases r; cases hm
  | e :: ds, _, _, r, z, u, hm => by
    cases r with | cons r1 r2 => ?_
    rcases List.mem_cons.mp hm with rfl | hm
    · rw [ansU_of r1 (noDics_cons z).1]
      exact eq_at e d A s _ _ _ _ r1 rv (noDics_cons z).1 zd (room60 hu (Nat.le_trans (Nat.min_le_right _ _) hd))
    · exact ansU_eqAt rv zd hd hu r2 (noDics_cons z).2 u hm
/-- a list or a tuple at hand -/
theorem seqL {pins : List (Addr × Obj)} {σ : St} {H : Hp} {s : Shared} {F : Addr → Prop} {ds : List PyData} {x : V} (I : L2.Inv X pins σ H s) (nd : noDics ds = true) (h : Rb X.K F H (.list ds) x) :
    ∃ a its as, x = .ref a ∧ PlainL s.heap a its.toArray ∧ ReadsAll s.heap its ds as ∧ its.length = ds.length ∧ ds.length ≤ sizeLine := by
  obtain ⟨a, vs, rfl, q, r⟩ := h
  obtain ⟨its, rv, pl, hz⟩ := I.list (.inl q)
  obtain ⟨as, ra⟩ := Dp.readsAll I ds vs its (Rps.dp ds vs nd r) rv
  have c1 := r.length
  have c2 := rv.length
  exact ⟨a, its, as, rfl, pl, ra, by omega, by omega⟩
theorem seqT {pins : List (Addr × Obj)} {σ : St} {H : Hp} {s : Shared} {F : Addr → Prop} {ds : List PyData} {x : V} (I : L2.Inv X pins σ H s) (nd : noDics ds = true) (h : Rb X.K F H (.tuple ds) x) :
    ∃ a its as, x = .ref a ∧ IsTup s.heap a its.toArray ∧ ReadsAll s.heap its ds as ∧ its.length = ds.length ∧ ds.length ≤ sizeLine := by
  obtain ⟨a, vs, rfl, q, r⟩ := h
  obtain ⟨its, rv, pl, hz⟩ := I.tuple q
  obtain ⟨as, ra⟩ := Dp.readsAll I ds vs its (Rps.dp ds vs nd r) rv
  have c1 := r.length
  have c2 := rv.length
  exact ⟨a, its, as, rfl, pl, ra, by omega, by omega⟩
theorem in1_64 {A : Around} (hu : A.units + 128 < cLine) : A.in1.units + 64 < cLine := by
  have : A.in1.units = A.units + 1 := rfl
  omega
theorem opd_in (hu : X.A.units + 128 < cLine) : OpR X (compareOp .In) (rD X.K inD) := by
  intro pins s σ H x y v u Q I rx ry h
  obtain ⟨F, d, e, r, tr, hd, he, hg, q⟩ := h
  cases e with
  | list ds =>
    simp only [inD, inB] at hg
    split at hg
    · cases hg
      rename_i hz
      obtain ⟨⟨hz, nd⟩, zd⟩ := hz
      obtain ⟨bs, r1⟩ := hd.reads I nd rx
      obtain ⟨a, its, as, rfl, pl, ra, _⟩ := seqL I zd he
      cases ry
      refine SeqAt.in_listAt (ansU s.heap d) pl.isList (fun w hw => ansU_eqAt r1 nd hz (in1_64 hu) ra zd w (by simpa using hw)) ⟨.bl _, H, I, rfl, ?_⟩
      rw [List.any_toArray, ansU_any ra zd]
      exact q _ _ (Same.refl H) rfl
    · cases hg
  | tuple ds =>
    simp only [inD, inB] at hg
    split at hg
    · cases hg
      rename_i hz
      obtain ⟨⟨hz, nd⟩, zd⟩ := hz
      obtain ⟨bs, r1⟩ := hd.reads I nd rx
      obtain ⟨a, its, as, rfl, pl, ra, _⟩ := seqT I zd he
      cases ry
      refine SeqAt.in_tupleAt (ansU s.heap d) pl (fun w hw => ansU_eqAt r1 nd hz (in1_64 hu) ra zd w (by simpa using hw)) ⟨.bl _, H, I, rfl, ?_⟩
      rw [List.any_toArray, ansU_any ra zd]
      exact q _ _ (Same.refl H) rfl
    · cases hg
  | str z =>
    cases d with
    | str c =>
      simp only [inD, inB] at hg
      split at hg
      · rename_i k hk
        cases hg
        have ec : c = ⟨#[k]⟩ := by
          cases c with
          | mk a => simp only at hk; rw [← Array.toArray_toList (xs := a), hk]
        subst ec
        exact op_in_sign pins s σ H x y v u Q I rx ry ⟨k, z, rd_strs hd, rd_strs he, q _ _ (Same.refl H) rfl⟩
      · cases hg
    | _ => cases hg
  | none => cases hg
  | bool _ => cases hg
  | int _ => cases hg
  | dict kvs =>
    simp only [inD, inB] at hg
    cases hk : getKD kvs d with
    | ok ro =>
      rw [hk] at hg
      cases hg
      obtain ⟨a, o, rfl, lk, rd⟩ := look_of I he hd rx hk
      cases ry
      refine look_in (by omega) I lk fun s' I' => ⟨.bl _, H, I', rfl, ?_⟩
      have e : o.isSome = ro.isSome := by
        cases ro <;> cases o <;> first | rfl | exact False.elim rd
      rw [e]
      exact q _ _ (Same.refl H) rfl
    | exc n es => rw [hk] at hg; cases hg
    | bad => rw [hk] at hg; cases hg
theorem opd_notIn (hu : X.A.units + 128 < cLine) : OpR X (compareOp .NotIn) (rD X.K notInD) := by
  intro pins s σ H x y v u Q I rx ry h
  obtain ⟨F, d, e, r, tr, hd, he, hg, q⟩ := h
  cases e with
  | list ds =>
    simp only [notInD, inB] at hg
    split at hg
    · cases hg
      rename_i hz
      obtain ⟨⟨hz, nd⟩, zd⟩ := hz
      obtain ⟨bs, r1⟩ := hd.reads I nd rx
      obtain ⟨a, its, as, rfl, pl, ra, _⟩ := seqL I zd he
      cases ry
      refine SeqAt.notIn_listAt (ansU s.heap d) pl.isList (fun w hw => ansU_eqAt r1 nd hz (in1_64 hu) ra zd w (by simpa using hw)) ⟨.bl _, H, I, rfl, ?_⟩
      rw [List.any_toArray, ansU_any ra zd]
      exact q _ _ (Same.refl H) rfl
    · cases hg
  | tuple ds =>
    simp only [notInD, inB] at hg
    split at hg
    · cases hg
      rename_i hz
      obtain ⟨⟨hz, nd⟩, zd⟩ := hz
      obtain ⟨bs, r1⟩ := hd.reads I nd rx
      obtain ⟨a, its, as, rfl, pl, ra, _⟩ := seqT I zd he
      cases ry
      refine SeqAt.notIn_tupleAt (ansU s.heap d) pl (fun w hw => ansU_eqAt r1 nd hz (in1_64 hu) ra zd w (by simpa using hw)) ⟨.bl _, H, I, rfl, ?_⟩
      rw [List.any_toArray, ansU_any ra zd]
      exact q _ _ (Same.refl H) rfl
    · cases hg
  | str z =>
    cases d with
    | str c =>
      simp only [notInD, inB] at hg
      split at hg
      · rename_i k hk
        cases hg
        have ec : c = ⟨#[k]⟩ := by
          cases c with
          | mk a => simp only at hk; rw [← Array.toArray_toList (xs := a), hk]
        subst ec
        exact op_notIn_sign pins s σ H x y v u Q I rx ry ⟨k, z, rd_strs hd, rd_strs he, q _ _ (Same.refl H) rfl⟩
      · cases hg
    | _ => cases hg
  | none => cases hg
  | bool _ => cases hg
  | int _ => cases hg
  | dict kvs =>
    simp only [notInD, inB] at hg
    cases hk : getKD kvs d with
    | ok ro =>
      rw [hk] at hg
      cases hg
      obtain ⟨a, o, rfl, lk, rd⟩ := look_of I he hd rx hk
      cases ry
      refine look_notIn (by omega) I lk fun s' I' => ⟨.bl _, H, I', rfl, ?_⟩
      have e : o.isSome = ro.isSome := by
        cases ro <;> cases o <;> first | rfl | exact False.elim rd
      rw [e]
      exact q _ _ (Same.refl H) rfl
    | exc n es => rw [hk] at hg; cases hg
    | bad => rw [hk] at hg; cases hg
/-! ### is -/
theorem isNone_rp {K : PySem.W.Frag} {F : Addr → Prop} {H : Hp} {d : PyData} {x : V} (h : Rb K F H d x) : decide (x = .non) = isNoneD d := by
  cases d with
  | none => cases (show x = .non from h); rfl
  | bool b => cases (show x = .bl b from h); rfl
  | int b => cases (show x = .int b from h); rfl
  | str b => cases (show x = .str b from h); rfl
  | list ds => obtain ⟨a, vs, rfl, _⟩ := h; rfl
  | tuple ds => obtain ⟨a, vs, rfl, _⟩ := h; rfl
  | dict _ => obtain ⟨a, vs, o, rfl, _⟩ := h; rfl
theorem opd_is : OpR X (compareOp .Is) (rD X.K isD) := by
  intro pins s σ H x y v u Q I rx ry h
  obtain ⟨F, d, e, r, tr, hd, he, hg, q⟩ := h
  cases e with
  | none =>
    cases (show R.ok (.bool (isNoneD d)) = R.ok r by cases d <;> exact hg)
    cases (show y = .non from he)
    exact op_isN pins s σ H x _ v u Q I rx ry ⟨rfl, q _ _ (Same.refl H) (by rw [isNone_rp hd]; rfl)⟩
  | bool b =>
    cases d with
    | bool a =>
      cases hg
      cases (show y = .bl b from he)
      cases (show x = .bl a from hd)
      exact op_isBl pins s σ H _ _ v u Q I rx ry ⟨a, b, rfl, rfl, q _ _ (Same.refl H) rfl⟩
    | _ => cases hg
  | _ => cases d <;> cases hg
theorem opd_isnt : OpR X (compareOp .IsNot) (rD X.K isntD) := by
  intro pins s σ H x y v u Q I rx ry h
  obtain ⟨F, d, e, r, tr, hd, he, hg, q⟩ := h
  cases e with
  | none =>
    cases (show R.ok (.bool (!isNoneD d)) = R.ok r by cases d <;> exact hg)
    cases (show y = .non from he)
    exact op_notN pins s σ H x _ v u Q I rx ry ⟨rfl, q _ _ (Same.refl H) (by rw [isNone_rp hd]; rfl)⟩
  | bool b =>
    cases d with
    | bool a =>
      cases hg
      cases (show y = .bl b from he)
      cases (show x = .bl a from hd)
      exact op_notBl pins s σ H _ _ v u Q I rx ry ⟨a, b, rfl, rfl, q _ _ (Same.refl H) rfl⟩
    | _ => cases hg
  | _ => cases d <;> cases hg
end
end Pv


/-! calls of built-ins, items, slices -/
namespace Pv
open PySem PySem.Spec L2
open PyProof.Rows hiding St
open PySem.W (dataLt alike)

/-- a rule of a call of one argument, by data -/
def rC1 (K : PySem.W.Frag) (g : PyData → R PyData) : List V → Hp → VK → Prop := fun xs H Q => ∃ x, xs = [x] ∧ rD1 K g x H Q
def rC2 (K : PySem.W.Frag) (g : PyData → PyData → R PyData) : List V → Hp → VK → Prop := fun xs H Q => ∃ x y, xs = [x, y] ∧ rD K g x y H Q

def lenD : PyData → R PyData
  | .list ds | .tuple ds => .ok (.int ds.length)
  | .dict kvs => if allK kvs = true then .ok (.int kvs.length) else .bad
  | .str z => if z.length ≤ sizeLine then .ok (.int z.length) else .bad
  | _ => .bad
def listD : PyData → R PyData
  | .list ds | .tuple ds => .ok (.list ds)
  | _ => .bad
/-- .. of a dict's keys, too -/
def listC : PyData → R PyData
  | .list ds | .tuple ds => .ok (.list ds)
  | .dict kvs => if allK kvs = true then .ok (.list (kvs.map (·.1))) else .bad
  | _ => .bad
def tupleD : PyData → R PyData
  | .list ds | .tuple ds => .ok (.tuple ds)
  | _ => .bad
def intD : PyData → R PyData
  | .int i => .ok (.int i)
  | .bool b => .ok (.int (if b then 1 else 0))
  | _ => .bad
def negD : PyData → R PyData
  | .int i => .ok (.int (-i))
  | _ => .bad
def absD : PyData → R PyData
  | .int i => .ok (.int (if i < 0 then -i else i))
  | _ => .bad
def max2D : PyData → PyData → R PyData
  | .int i, .int j => .ok (.int (if j > i then j else i))
  | _, _ => .bad
def min2D : PyData → PyData → R PyData
  | .int i, .int j => .ok (.int (if j < i then j else i))
  | _, _ => .bad
/-- a list of ints alone -/
def intsOf : List PyData → Option (List Int)
  | [] => some []
  | .int i :: r => (intsOf r).map (i :: ·)
  | _ :: _ => none
def sumD : PyData → R PyData
  | .list ds => (match intsOf ds with
    | some ns => .ok (.int ns.sum)
    | none => .bad)
  | _ => .bad
def maxOf : List Int → Option Int
  | [] => none
  | x :: xs => some (xs.foldl max x)
def minOf : List Int → Option Int
  | [] => none
  | x :: xs => some (xs.foldl min x)
def maxLD : PyData → R PyData
  | .list ds => (match (intsOf ds).bind maxOf with
    | some m => .ok (.int m)
    | none => .bad)
  | _ => .bad
def minLD : PyData → R PyData
  | .list ds => (match (intsOf ds).bind minOf with
    | some m => .ok (.int m)
    | none => .bad)
  | _ => .bad
def alikeB (ds : List PyData) : Bool := ds.all fun d => ds.all fun e => alike d e
def sortB (ds : List PyData) : Bool := (ds.all fun d => match d with | .tuple (_ :: _) => true | _ => false) || ds.all fun d => match d with | .none => false | .tuple _ => false | _ => true
def sortedL (ds : List PyData) : List PyData := ds.mergeSort (PySem.W.dataLe false fun d => d)
def sortD : PyData → R PyData
  | .list ds => if noDics ds = true ∧ alikeB ds = true ∧ sortB ds = true ∧ ds.all (fun d => decide (d.depth ≤ 60)) = true then .ok (.list (sortedL ds)) else .bad
  | _ => .bad
def ixD : PyData → PyData → R PyData
  | .list ds, .int i | .tuple ds, .int i => (match atI ds i with
    | some d => .ok d
    | none => .bad)
  | .str z, .int i => if z.length ≤ sizeLine then (match atI z.cps.toList i with
    | some c => .ok (.str ⟨#[c]⟩)
    | none => .bad) else .bad
  | .dict kvs, k => (match getKD kvs k with
    | .ok (some d) => .ok d
    | _ => .bad)
  | _, _ => .bad
def cutD (ds : List PyData) (lo hi : Option Int) : List PyData := (ds.drop (HT.sIx ds.length 0 lo)).take (HT.sIx ds.length ds.length hi - HT.sIx ds.length 0 lo)
def slD (d : PyData) (lo hi : Option Int) : R PyData :=
  match d with
  | .list ds => .ok (.list (cutD ds lo hi))
  | .tuple ds => .ok (.tuple (cutD ds lo hi))
  | _ => .bad
section
variable {X : Cx}
theorem intsOf_rps {K : PySem.W.Frag} {F : Addr → Prop} {H : Hp} : ∀ {ds : List PyData} {ns : List Int} {vs : List V}, intsOf ds = some ns → Rps K F H ds vs → vs = ns.map V.int
  | [], _, _, e, h => by cases e; exact h
  | d :: ds, ns, vs, e, ⟨v, r, ev, h1, h2⟩ => by
    cases d with
    | int i =>
      simp only [intsOf] at e
      cases q : intsOf ds with
      | none => rw [q] at e; cases e
      | some ms =>
        rw [q] at e
        cases e
        subst ev
        cases (show v = .int i from h1)
        rw [intsOf_rps q h2]; rfl
    | _ => cases e
theorem rb_allK {H : Hp} {F : Addr → Prop} {kvs : List (PyData × PyData)} {x : V} (ha : allK kvs = true) (h : Rb X.K F H (.dict kvs) x) : ∃ (a : Addr) (κ : List Key) (vs : List V), x = .ref a ∧ H a = some (.dK (κ.zip vs)) ∧ kvs.map (·.1) = κ.map kD ∧ κ.length = vs.length ∧ Rpk X.K F H kvs vs := by
  obtain ⟨a, vs, o, rfl, e, c, r⟩ := h
  obtain ⟨κ, e1, rfl⟩ := dco_K c (fun p hp => by
    obtain ⟨q, hq, rfl⟩ := List.mem_map.mp hp
    exact List.all_eq_true.mp ha q hq)
  exact ⟨a, κ, vs, rfl, e, e1, keys_len e1 r, r⟩
theorem opd_len0 : CallR X (.builtin "len") (fun xs H Q => ∃ x, xs = [x] ∧ ∃ F d r, Trk F H ∧ Rb X.K F H d x ∧ (∀ kvs, d ≠ .dict kvs) ∧ lenD d = .ok r ∧ ∀ v H', Same H H' → Nw X.K H F H' r v → Q v H') := by
  intro pins s σ H xs us Q I rs h
  obtain ⟨x, rfl, F, d, r, tr, hd, nd, hg, q⟩ := h
  refine call_len pins s σ H _ us Q I rs ?_
  cases d with
  | list ds =>
    cases hg
    obtain ⟨a, vs, rfl, q1, r1⟩ := hd
    exact ⟨_, _, rfl, .inl ⟨vs, .inl q1, rfl⟩, by rw [← r1.length]; exact q _ _ (Same.refl H) rfl⟩
  | tuple ds =>
    cases hg
    obtain ⟨a, vs, rfl, q1, r1⟩ := hd
    exact ⟨_, _, rfl, .inr ⟨vs, q1, rfl⟩, by rw [← r1.length]; exact q _ _ (Same.refl H) rfl⟩
  | str z =>
    simp only [lenD] at hg
    split at hg
    · cases hg
      cases rd_strs hd
      rename_i hz
      exact ⟨_, _, rfl, ⟨hz, rfl⟩, q _ _ (Same.refl H) rfl⟩
    · cases hg
  | _ => first | (cases hg; done) | exact absurd rfl (nd _)
theorem opd_len : CallR X (.builtin "len") (rC1 X.K lenD) := by
  intro pins s σ H xs us Q I rs h
  obtain ⟨x, rfl, F, d, r, tr, hd, hg, q⟩ := h
  cases d with
  | dict kvs =>
    simp only [lenD] at hg
    split at hg
    · rename_i ha
      cases hg
      obtain ⟨a, κ, vs, rfl, e, e1, hl, rk⟩ := rb_allK ha hd
      have hlen : (κ.zip vs).length = kvs.length := by
        have := rk.length
        rw [List.length_zip]; omega
      refine call_lenD pins s σ H _ us Q I rs ⟨a, _, rfl, e, ?_⟩
      rw [hlen]
      exact q _ _ (Same.refl H) rfl
    · cases hg
  | _ => exact opd_len0 pins s σ H _ us Q I rs ⟨x, rfl, F, _, r, tr, hd, (fun _ z => by cases z), hg, q⟩
theorem opd_list : CallR X (.type "list") (rC1 X.K listD) := by
  intro pins s σ H xs us Q I rs h
  obtain ⟨x, rfl, F, d, r, tr, hd, hg, q⟩ := h
  refine call_list_of pins s σ H _ us Q I rs ?_
  cases d with
  | list ds =>
    cases hg
    obtain ⟨a, vs, rfl, q1, r1⟩ := hd
    exact ⟨_, _, rfl, .inl (.inl q1), fun l nl => q _ _ (same_upd nl) (Nw.mk nl r1)⟩
  | tuple ds =>
    cases hg
    obtain ⟨a, vs, rfl, q1, r1⟩ := hd
    exact ⟨_, _, rfl, .inr q1, fun l nl => q _ _ (same_upd nl) (Nw.mk nl r1)⟩
  | _ => cases hg
theorem keys_rps {K : PySem.W.Frag} {F : Addr → Prop} {H : Hp} : ∀ κ : List Key, Rps K F H (κ.map kD) (κ.map kV)
  | [] => rfl
  | k :: κ => ⟨kV k, _, rfl, by cases k <;> rfl, keys_rps κ⟩
theorem opd_listC (hc : X.calm = true) : CallR X (.type "list") (rC1 X.K listC) := by
  intro pins s σ H xs us Q I rs h
  obtain ⟨x, rfl, F, d, r, tr, hd, hg, q⟩ := h
  cases d with
  | dict kvs =>
    simp only [listC] at hg
    split at hg
    · rename_i ha
      cases hg
      obtain ⟨a, κ, vs, rfl, e, e1, hl, rk⟩ := rb_allK ha hd
      have hm : (κ.zip vs).map (fun kv => kV kv.1) = κ.map kV := by
        rw [show (fun kv : Key × V => kV kv.1) = kV ∘ Prod.fst from rfl, ← List.map_map, List.map_fst_zip (by omega)]
      refine call_listD hc pins s σ H _ us Q I rs ⟨a, _, rfl, .inl e, fun p np => ?_⟩
      rw [hm]
      refine q _ _ (same_upd np) ?_
      rw [e1]
      exact Nw.mk np (keys_rps κ)
    · cases hg
  | list ds => exact opd_list pins s σ H _ us Q I rs ⟨x, rfl, F, _, r, tr, hd, hg, q⟩
  | tuple ds => exact opd_list pins s σ H _ us Q I rs ⟨x, rfl, F, _, r, tr, hd, hg, q⟩
  | _ => cases hg
theorem opd_tuple : CallR X (.type "tuple") (rC1 X.K tupleD) := by
  intro pins s σ H xs us Q I rs h
  obtain ⟨x, rfl, F, d, r, tr, hd, hg, q⟩ := h
  refine call_tuple_of pins s σ H _ us Q I rs ?_
  cases d with
  | list ds =>
    cases hg
    obtain ⟨a, vs, rfl, q1, r1⟩ := hd
    exact ⟨_, _, rfl, .inl ⟨.inl q1, fun l nl => q _ _ (same_upd nl) ⟨l, vs, rfl, SqT.of upd_same, r1.same (same_upd nl)⟩⟩⟩
  | tuple ds =>
    cases hg
    obtain ⟨a, vs, rfl, q1, r1⟩ := hd
    exact ⟨_, _, rfl, .inr ⟨q1, q _ _ (Same.refl H) ⟨a, vs, rfl, q1, r1⟩⟩⟩
  | _ => cases hg
theorem opd_int : CallR X (.type "int") (rC1 X.K intD) := by
  intro pins s σ H xs us Q I rs h
  obtain ⟨x, rfl, F, d, r, tr, hd, hg, q⟩ := h
  refine call_int1 pins s σ H _ us Q I rs ?_
  cases d with
  | int i => cases hg; cases rd_ints hd; exact .inl ⟨i, rfl, q _ _ (Same.refl H) rfl⟩
  | bool b => cases hg; cases (show x = .bl b from hd); exact .inr ⟨b, rfl, q _ _ (Same.refl H) rfl⟩
  | _ => cases hg
theorem opd_abs : CallR X (.builtin "abs") (rC1 X.K absD) := by
  intro pins s σ H xs us Q I rs h
  obtain ⟨x, rfl, F, d, r, tr, hd, hg, q⟩ := h
  refine call_abs pins s σ H _ us Q I rs ?_
  cases d with
  | int i => cases hg; cases rd_ints hd; exact ⟨i, rfl, q _ _ (Same.refl H) rfl⟩
  | _ => cases hg
theorem opd_neg : UnR X (unaryOp .USub) (rD1 X.K negD) := by
  intro pins s σ H x v Q I rx h
  obtain ⟨F, d, r, tr, hd, hg, q⟩ := h
  cases d with
  | int i => cases hg; cases rd_ints hd; exact un_neg pins s σ H _ v Q I rx ⟨i, rfl, q _ _ (Same.refl H) rfl⟩
  | _ => cases hg
theorem opd_max2 (hc : X.calm = true) : CallR X (.builtin "max") (rC2 X.K max2D) := by
  intro pins s σ H xs us Q I rs h
  obtain ⟨x, y, rfl, F, d, e, r, tr, hd, he, hg, q⟩ := h
  cases d <;> cases e <;> first | (refine absurd hg ?_; intro z; cases z; done) | skip
  cases hg; cases rd_ints hd; cases rd_ints he
  exact call_max2 hc pins s σ H _ us Q I rs ⟨_, _, rfl, q _ _ (Same.refl H) rfl⟩
theorem opd_min2 (hc : X.calm = true) : CallR X (.builtin "min") (rC2 X.K min2D) := by
  intro pins s σ H xs us Q I rs h
  obtain ⟨x, y, rfl, F, d, e, r, tr, hd, he, hg, q⟩ := h
  cases d <;> cases e <;> first | (refine absurd hg ?_; intro z; cases z; done) | skip
  cases hg; cases rd_ints hd; cases rd_ints he
  exact call_min2 hc pins s σ H _ us Q I rs ⟨_, _, rfl, q _ _ (Same.refl H) rfl⟩
theorem opd_sum (hc : X.calm = true) : CallR X (.builtin "sum") (rC1 X.K sumD) := by
  intro pins s σ H xs us Q I rs h
  obtain ⟨x, rfl, F, d, r, tr, hd, hg, q⟩ := h
  cases d with
  | list ds =>
    simp only [sumD] at hg
    split at hg
    · rename_i ns hn
      cases hg
      obtain ⟨a, vs, rfl, q1, r1⟩ := hd
      cases intsOf_rps hn r1
      exact cr_sum hc pins s σ H _ us Q I rs ⟨a, ns, rfl, .inl q1, q _ _ (Same.refl H) rfl⟩
    · cases hg
  | _ => cases hg
theorem maxOf_is {ns : List Int} {m k : Int} (h : maxOf ns = some m) (hk : k ∈ ns) (hu : ∀ y ∈ ns, y ≤ k) : k = m := by
  cases ns with
  | nil => cases h
  | cons x xs =>
    cases h
    have up : ∀ (l : List Int) (a : Int), a ≤ l.foldl max a ∧ (∀ y ∈ l, y ≤ l.foldl max a) ∧ (l.foldl max a = a ∨ l.foldl max a ∈ l) := by
      intro l
      induction l with
      | nil => intro a; exact ⟨Int.le_refl a, fun y hy => (by cases hy), .inl rfl⟩
      | cons b l ih =>
        intro a
        obtain ⟨h1, h2, h3⟩ := ih (max a b)
        refine ⟨Int.le_trans (Int.le_max_left a b) h1, fun y hy => ?_, ?_⟩
        · rcases List.mem_cons.mp hy with rfl | hy
          · exact Int.le_trans (Int.le_max_right a y) h1
          · exact h2 y hy
        · rcases h3 with h3 | h3
          · rw [List.foldl_cons, h3]
            rcases Int.le_total a b with z | z
            · rw [Int.max_eq_right z]; exact .inr List.mem_cons_self
            · rw [Int.max_eq_left z]; exact .inl rfl
          · exact .inr (List.mem_cons_of_mem _ h3)
    obtain ⟨h1, h2, h3⟩ := up xs x
    have a1 : k ≤ xs.foldl max x := by
      rcases List.mem_cons.mp hk with rfl | hk
      · exact h1
      · exact h2 k hk
    have a2 : xs.foldl max x ≤ k := by
      rcases h3 with h3 | h3
      · rw [h3]; exact hu x List.mem_cons_self
      · exact hu _ (List.mem_cons_of_mem _ h3)
    omega
theorem minOf_is {ns : List Int} {m k : Int} (h : minOf ns = some m) (hk : k ∈ ns) (hu : ∀ y ∈ ns, k ≤ y) : k = m := by
  cases ns with
  | nil => cases h
  | cons x xs =>
    cases h
    have up : ∀ (l : List Int) (a : Int), l.foldl min a ≤ a ∧ (∀ y ∈ l, l.foldl min a ≤ y) ∧ (l.foldl min a = a ∨ l.foldl min a ∈ l) := by
      intro l
      induction l with
      | nil => intro a; exact ⟨Int.le_refl a, fun y hy => (by cases hy), .inl rfl⟩
      | cons b l ih =>
        intro a
        obtain ⟨h1, h2, h3⟩ := ih (min a b)
        refine ⟨Int.le_trans h1 (Int.min_le_left a b), fun y hy => ?_, ?_⟩
        · rcases List.mem_cons.mp hy with rfl | hy
          · exact Int.le_trans h1 (Int.min_le_right a y)
          · exact h2 y hy
        · rcases h3 with h3 | h3
          · rw [List.foldl_cons, h3]
            rcases Int.le_total a b with z | z
            · rw [Int.min_eq_left z]; exact .inl rfl
            · rw [Int.min_eq_right z]; exact .inr List.mem_cons_self
          · exact .inr (List.mem_cons_of_mem _ h3)
    obtain ⟨h1, h2, h3⟩ := up xs x
    have a1 : xs.foldl min x ≤ k := by
      rcases List.mem_cons.mp hk with rfl | hk
      · exact h1
      · exact h2 k hk
    have a2 : k ≤ xs.foldl min x := by
      rcases h3 with h3 | h3
      · rw [h3]; exact hu x List.mem_cons_self
      · exact hu _ (List.mem_cons_of_mem _ h3)
    omega
theorem opd_maxL (hc : X.calm = true) : CallR X (.builtin "max") (rC1 X.K maxLD) := by
  intro pins s σ H xs us Q I rs h
  obtain ⟨x, rfl, F, d, r, tr, hd, hg, q⟩ := h
  cases d with
  | list ds =>
    simp only [maxLD] at hg
    split at hg
    · rename_i m hm
      cases hg
      obtain ⟨a, vs, rfl, q1, r1⟩ := hd
      obtain ⟨ns, hn, hm⟩ := Option.bind_eq_some_iff.mp hm
      cases intsOf_rps hn r1
      have h0 : 0 < ns.length := by cases ns with | nil => cases hm | cons _ _ => simp
      exact cr_max hc pins s σ H _ us Q I rs ⟨a, ns, rfl, .inl q1, h0, fun k h1 h2 => by rw [maxOf_is hm h1 h2]; exact q _ _ (Same.refl H) rfl⟩
    · cases hg
  | _ => cases hg
theorem opd_minL (hc : X.calm = true) : CallR X (.builtin "min") (rC1 X.K minLD) := by
  intro pins s σ H xs us Q I rs h
  obtain ⟨x, rfl, F, d, r, tr, hd, hg, q⟩ := h
  cases d with
  | list ds =>
    simp only [minLD] at hg
    split at hg
    · rename_i m hm
      cases hg
      obtain ⟨a, vs, rfl, q1, r1⟩ := hd
      obtain ⟨ns, hn, hm⟩ := Option.bind_eq_some_iff.mp hm
      cases intsOf_rps hn r1
      have h0 : 0 < ns.length := by cases ns with | nil => cases hm | cons _ _ => simp
      exact cr_min hc pins s σ H _ us Q I rs ⟨a, ns, rfl, .inl q1, h0, fun k h1 h2 => by rw [minOf_is hm h1 h2]; exact q _ _ (Same.refl H) rfl⟩
    · cases hg
  | _ => cases hg
/-! ### sorted -/
theorem each_of {K : PySem.W.Frag} {F : Addr → Prop} {H : Hp} : ∀ {ds : List PyData} {vs : List V} {us : List Value}, Rps K F H ds vs → Vals vs us → PySem.W.EachIs (fun u d => ∃ x, RelV x u ∧ Rp K F H d x) us ds
  | [], _, _, h, r => by cases (show _ = [] from h); cases r; exact .nil
  | d :: ds, _, _, ⟨v, w, e, h1, h2⟩, r => by
    subst e
    cases r with
    | cons r1 r2 => exact .cons ⟨v, r1, h1⟩ (each_of h2 r2)
theorem of_each {K : PySem.W.Frag} {F : Addr → Prop} {H : Hp} : ∀ {us : List Value} {ds : List PyData}, PySem.W.EachIs (fun u d => ∃ x, RelV x u ∧ Rp K F H d x) us ds → ∃ vs, Vals vs us ∧ Rps K F H ds vs
  | _, _, .nil => ⟨[], .nil, rfl⟩
  | _, _, .cons ⟨x, r, h⟩ t => by
    obtain ⟨vs, r2, h2⟩ := of_each t
    exact ⟨x :: vs, .cons r r2, x, vs, rfl, h, h2⟩
theorem each_reads {h : Heap} : ∀ {us : List Value} {ds : List PyData} {as : List Addr}, ReadsAll h us ds as → PySem.W.EachIs (fun u d => ∃ bs, Reads h u d bs) us ds
  | [], _, _, r => by cases r; exact .nil
  | _ :: _, _, _, r => by cases r with | cons r1 r2 => exact .cons ⟨_, r1⟩ (each_reads r2)
theorem mem_depth {n : Nat} : ∀ {ds : List PyData} {d : PyData}, ds.all (fun d => decide (d.depth ≤ n)) = true → d ∈ ds → d.depth ≤ n := fun {ds d} h hm => of_decide_eq_true (List.all_eq_true.mp h d hm)
theorem opd_sorted (hu : X.A.units + 128 < cLine) : CallR X (.builtin "sorted") (rC1 X.K sortD) := by
  intro pins s σ H xs us Q I rs h
  obtain ⟨x, rfl, F, d, r, tr, hd, hg, q⟩ := h
  cases d with
  | list ds =>
    simp only [sortD] at hg
    split at hg
    · rename_i hc
      obtain ⟨nd, c1, c2, c3⟩ := hc
      cases hg
      obtain ⟨a, vs, rfl, q1, r1⟩ := hd
      obtain ⟨its, rv, pl, hz⟩ := I.list (.inl q1)
      obtain ⟨as, ra⟩ := Dp.readsAll I ds vs its (Rps.dp ds vs nd r1) rv
      have l1 := r1.length
      have l2 := rv.length
      rw [Vals.ref1 rs]
      have hal : PySem.W.AllAlike (ds.map fun d => d) := by
        rw [List.map_id']
        intro d hd e he
        exact List.all_eq_true.mp (List.all_eq_true.mp c1 d hd) e he
      have hso : PySem.W.Sortable (ds.map fun d => d) := by
        rw [List.map_id']
        unfold sortB at c2
        rw [Bool.or_eq_true] at c2
        rcases c2 with c2 | c2
        · refine .inl fun d hd => ?_
          have := List.all_eq_true.mp c2 d hd
          split at this
          · exact ⟨_, _, rfl⟩
          · cases this
        · refine .inr fun d hd => ?_
          have := List.all_eq_true.mp c2 d hd
          constructor
          · intro z; subst z; cases this
          · intro ys z; subst z; cases this
      refine PySem.W.sorted_data (enc := fun d => d) (R := fun u d => ∃ x, RelV x u ∧ Rp X.K F H d x) pl.isList (each_of r1 rv) (each_reads ra) hal hso (by omega) (fun b hb => ?_) fun out ho he => ?_
      · have := mem_depth c3 hb
        show X.A.units + 2 + b.depth < cLine
        omega
      · obtain ⟨ws, rw1, rw2⟩ := of_each he
        obtain ⟨ep, he'⟩ := PyProof.Rows.sortedAll_at s.heap its out.toArray
        have np : H (s.heap.objs.size + 1) = none := I.hok.fresh (Nat.le_succ _)
        refine ⟨.ref _, upd H (s.heap.objs.size + 1) (.lst ws), I.laid (t' := s.toks) (fun _ _ => PyProof.Rows.sortedAll_old) (Nat.le_succ _) ⟨?_, out, ep, rw1, he'⟩, rfl, q _ _ (same_upd np) (Nw.mk np rw2)⟩
        have := rw1.length
        omega
    · cases hg
  | _ => cases hg
/-! ### items, slices -/
theorem atI_rps {K : PySem.W.Frag} {F : Addr → Prop} {H : Hp} {ds : List PyData} {vs : List V} {i : Int} {d : PyData} (r : Rps K F H ds vs) (h : atI ds i = some d) : ∃ v, atI vs i = some v ∧ Rp K F H d v := by
  unfold atI at h ⊢
  obtain ⟨j, h1, h2⟩ := Option.bind_eq_some_iff.mp h
  obtain ⟨v, e, q⟩ := r.get h2
  refine ⟨v, ?_, q⟩
  rw [← r.length, h1]
  exact e
theorem opd_ix0 (hu : X.A.units + 64 < cLine) {value slice : Expr} {pins : List (Addr × Obj)} {s : Shared} {σ : St} {H : Hp} {x y : V} {v u : Value} {Q : VK} {F : Addr → Prop} {kvs : List (PyData × PyData)} {e r : PyData} (I : Inv X pins σ H s) (rx : RelV x v) (ry : RelV y u) (hd : Rb X.K F H (.dict kvs) x) (he : Rb X.K F H e y) (hg : ixD (.dict kvs) e = .ok r) (q : ∀ v H', Same H H' → Rp X.K F H' r v → Q v H')
    (hs : subscripted slice false v u = operate [v, u] (getItem v u)) : wpAny (model X.prog X.w) X.A (subscriptTail value slice v u) (EP X pins σ Q) X.xe s := by
  simp only [ixD] at hg
  cases hk : getKD kvs e with
  | ok ro =>
    rw [hk] at hg
    cases ro with
    | none => cases hg
    | some d =>
      cases hg
      obtain ⟨a, o, rfl, lk, rd⟩ := look_of I hd he ry hk
      cases rx
      cases o with
      | none => exact False.elim rd
      | some w =>
        obtain ⟨z, rz, qz⟩ := rd
        exact subscriptTail_builtinR (x := w) lk.typeIs PySem.F.slot_dict_getitem.lookup (look_get (by omega) I lk fun s' I' => ⟨rfl, z, H, I', rz, q _ _ (Same.refl H) qz⟩) hs
  | exc n es => rw [hk] at hg; cases hg
  | bad => rw [hk] at hg; cases hg
theorem opd_ix (hu : X.A.units + 64 < cLine) : IxR X (fun x y H Q => ∃ F d e r, Trk F H ∧ Rb X.K F H d x ∧ Rb X.K F H e y ∧ ixD d e = .ok r ∧ ∀ v H', Same H H' → Rp X.K F H' r v → Q v H') := by
  intro value slice pins s σ H x y v u Q I rx ry h hs
  obtain ⟨F, d, e, r, tr, hd, he, hg, q⟩ := h
  cases d <;> cases e <;> first | exact opd_ix0 hu I rx ry hd he hg q hs | (refine absurd hg ?_; intro z; cases z; done) | skip
  · simp only [ixD] at hg
    split at hg
    · rename_i hz
      cases rd_strs hd; cases rd_ints he
      split at hg
      · rename_i c hc
        cases hg
        exact ix_str value slice pins s σ H _ _ v u Q I rx ry ⟨_, _, c, rfl, rfl, hz, hc, q _ _ (Same.refl H) rfl⟩ hs
      · cases hg
    · cases hg
  · simp only [ixD] at hg
    split at hg
    · rename_i d' hc
      cases hg
      cases rd_ints he
      obtain ⟨a, vs, rfl, q1, r1⟩ := hd
      obtain ⟨w, hw, rw⟩ := atI_rps r1 hc
      exact ix_list value slice pins s σ H _ _ v u Q I rx ry ⟨a, vs, _, w, rfl, rfl, .inl q1, hw, q _ _ (Same.refl H) rw⟩ hs
    · cases hg
  · simp only [ixD] at hg
    split at hg
    · rename_i d' hc
      cases hg
      cases rd_ints he
      obtain ⟨a, vs, rfl, q1, r1⟩ := hd
      obtain ⟨w, hw, rw⟩ := atI_rps r1 hc
      exact ix_tup value slice pins s σ H _ _ v u Q I rx ry ⟨a, vs, _, w, rfl, rfl, q1, hw, q _ _ (Same.refl H) rw⟩ hs
    · cases hg
theorem cut_rps {K : PySem.W.Frag} {F : Addr → Prop} {H : Hp} {ds : List PyData} {vs : List V} (r : Rps K F H ds vs) (lo hi : Option Int) : Rps K F H (cutD ds lo hi) (cutV vs lo hi) := by
  unfold cutD cutV
  rw [r.length]
  exact (r.drop _).take _
def rSlD (K : PySem.W.Frag) : V → Option Int → Option Int → Hp → VK → Prop := fun x lo hi H Q => ∃ F d r, Trk F H ∧ Rb K F H d x ∧ slD d lo hi = .ok r ∧ ∀ v H', Same H H' → Nw K H F H' r v → Q v H'
theorem opd_sl : SlR X (rSlD X.K) := by
  intro pins s σ H x v vl vu lo hi sl Q I rx hs pl pu h
  obtain ⟨F, d, r, tr, hd, hg, q⟩ := h
  cases d with
  | list ds =>
    cases hg
    obtain ⟨a, vs, rfl, q1, r1⟩ := hd
    exact sl_list pins s σ H _ v vl vu lo hi sl Q I rx hs pl pu ⟨a, vs, rfl, .inl q1, fun p np => q _ _ (same_upd np) (Nw.mk np (cut_rps r1 lo hi))⟩
  | tuple ds =>
    cases hg
    obtain ⟨a, vs, rfl, q1, r1⟩ := hd
    refine sl_tupA pins s σ H _ v vl vu lo hi sl Q I rx hs pl pu ⟨a, vs, rfl, q1, fun z => ?_, fun _ p np => ?_⟩
    · have e : cutD ds lo hi = ds := by
        unfold cutD
        rw [r1.length, z.1, z.2, Nat.sub_zero, List.drop_zero, ← r1.length, List.take_length]
      refine q _ _ (Same.refl H) ?_
      show Rp X.K F H (.tuple (cutD ds lo hi)) _
      rw [e]
      exact ⟨a, vs, rfl, q1, r1⟩
    · exact q _ _ (same_upd np) ⟨p, _, rfl, SqT.of upd_same, cut_rps (r1.same (same_upd np)) lo hi⟩
  | _ => cases hg
end
end Pv


/-! xs[::-1] of a tuple, of a list -/
namespace Pv
open PySem PySem.Spec L2
open PyProof.Rows hiding St
open Calls PySem.P

section
variable {prog : Program} {w : World} {A : Around} {E : Value → Shared → Prop} {s : Shared}
theorem back_all (xs : Array Value) : ((List.range xs.size).filterMap fun (m : Nat) => xs[(((xs.size : Int) - 1) + (m : Int) * (-1)).toNat]?).toArray = xs.toList.reverse.toArray := by
  have e : (List.range xs.size).filterMap (fun (m : Nat) => xs[(((xs.size : Int) - 1) + (m : Int) * (-1)).toNat]?) = ((List.range xs.size).map fun m => xs.size - 1 - m).filterMap (xs[·]?) := by
    rw [List.filterMap_map]
    have cg : ∀ {l : List Nat} {f g : Nat → Option Value}, (∀ m ∈ l, f m = g m) → l.filterMap f = l.filterMap g := by
      intro l f g h
      induction l with
      | nil => rfl
      | cons a l ih =>
        rw [List.filterMap_cons, List.filterMap_cons, h a List.mem_cons_self, ih fun m hm => h m (List.mem_cons_of_mem _ hm)]
    refine cg fun m hm => ?_
    have := List.mem_range.mp hm
    show xs[(((xs.size : Int) - 1) + (m : Int) * (-1)).toNat]? = xs[xs.size - 1 - m]?
    have e2 : (((xs.size : Int) - 1) + (m : Int) * (-1)).toNat = xs.size - 1 - m := by omega
    rw [e2]
  rw [e, PySem.W.krv_range, List.filterMap_reverse, PySem.W.krv_all]
theorem applied_back {sl : Addr} {vs : Value} {n : Nat} {Q : Int × Int × Nat → Shared → Prop} (hs : s.heap.IsSliceOf sl .none .none vs) (ps : IsPart vs (some (-1)))
    (h : Q ((n : Int) - 1, -1, n) s) : wpAny (model prog w) A (Builtin.Slice.sliceApplied (.ref sl) (pure (n : Int))) Q E s := by
  obtain ⟨os, hos, hcs, hds⟩ := id hs
  unfold Builtin.Slice.sliceApplied Builtin.Slice.sliceFields
  refine wpAny_bind (wpAny_bind (wpAny_field hos hds (x := Value.none) rfl (wpAny_bind (wpAny_field hos hds (x := Value.none) rfl (wpAny_bind (wpAny_field hos hds (x := vs) rfl (wpAny_pure ?_)))))))
  refine wpAny_bind (HT.slicePart_ ps ?_)
  show wpAny _ _ (if ((-1 : Int) == 0) = true then _ else _) _ _ s
  rw [if_neg (by decide)]
  refine wpAny_bind (HT.slicePart_ .none (wpAny_bind (HT.slicePart_ .none (wpAny_bind (wpAny_pure ?_)))))
  have e1 : Builtin.Slice.sliceAdjust none none (-1) (n : Int) = ((n : Int) - 1, -1) := rfl
  have e2 : Builtin.Slice.slicePlaces ((n : Int) - 1) (-1) (-1) = n := by
    unfold Builtin.Slice.slicePlaces
    rw [if_neg (by decide)]
    by_cases h0 : (n : Int) - 1 > -1
    · rw [if_pos h0, show (-(-1) : Int) = 1 from rfl, Int.ediv_one]; omega
    · rw [if_neg h0]; omega
  show wpAny _ _ (match Builtin.Slice.sliceAdjust none none (-1) (n : Int) with | (lo, hi) => pure (lo, (-1 : Int), Builtin.Slice.slicePlaces lo hi (-1))) _ _ s
  rw [e1]
  show wpAny _ _ (pure ((n : Int) - 1, (-1 : Int), Builtin.Slice.slicePlaces ((n : Int) - 1) (-1) (-1))) _ _ s
  rw [e2]
  exact wpAny_pure h
theorem getT_back {t sl : Addr} {items : Array Value} {vs : Value} {Q : Value → Shared → Prop} (ht : IsTup s.heap t items) (hs : s.heap.IsSliceOf sl .none .none vs) (ps : IsPart vs (some (-1)))
    (h : Q (.ref s.heap.objs.size) { s with heap := s.heap.push { cls := .type "tuple", data := .seq items.toList.reverse.toArray } }) (hsz : items.size ≤ sizeLine) : wpAny (model prog w) A (getItem (.ref t) (.ref sl)) Q E s := by
  have hfit : sizeOk (.seq items.toList.reverse.toArray) := by
    show items.toList.reverse.toArray.size ≤ sizeLine
    rw [List.size_toArray, List.length_reverse, Array.length_toList]
    exact hsz
  obtain ⟨os, hos, hcs, hds⟩ := id hs
  have hTs : s.TypeIs (.ref sl) "slice" := ⟨os, hos, hcs⟩
  unfold getItem
  try with_reducible refine wpAny_holding ?_
  first | refine wpAny_bind (wpAny_pure ?_) | skip
  refine wpAny_bind (wpAny_sequenceKey ht.typeIs (by decide) ?_)
  refine wpAny_bind (wpAny_callSpecial?_slot (name := Str.ofString "__getitem__") ht.typeIs PyProof.Rows.slot_tuple_getitem (wpAny_call_entry PyProof.Rows.slot_tuple_getitem ht.typeIs entry_tuple_getitem ?_ (args_tuple_getitem _ _)))
  show wpAny _ _ (Builtin.Tuple.tupleItemsOf (.ref t) >>= _) _ _ s
  refine wpAny_bind (tupleItemsOf_ ht (wpAny_bind (wpAny_typeOf hTs ?_)))
  rw [if_pos (by decide)]
  refine wpAny_bind (applied_back hs ps ?_)
  have hno : ¬ ((((items.size : Int) - 1) == 0 && (-1 : Int) == 1 && items.size == items.size) = true) := by
    intro q
    rw [Bool.and_eq_true, Bool.and_eq_true] at q
    exact absurd q.1.2 (by decide)
  show wpAny _ _ (if ((((items.size : Int) - 1) == 0 && (-1 : Int) == 1 && items.size == items.size) = true) then _ else _) _ _ s
  rw [if_neg hno, back_all]
  first
    | exact wpAny_bind (m := Builtin.Tuple.tupleExact _) (wpAny_newObj_type (wpAny_pure ⟨_, rfl, wpAny_pure h⟩) hfit)
    | exact wpAny_bind (m := Builtin.Tuple.tupleExact _) (wpAny_newObj_type (wpAny_bind (wpAny_pure (wpAny_pure ⟨_, rfl, wpAny_pure h⟩))) hfit)
    | exact wpAny_bind (wpAny_bind (m := Builtin.Tuple.tupleExact _) (wpAny_newObj_type (wpAny_pure (wpAny_pure ⟨_, rfl, wpAny_pure h⟩)) hfit))
    | exact wpAny_bind (wpAny_bind (m := Builtin.Tuple.tupleExact _) (wpAny_newObj_type (wpAny_pure ⟨_, rfl, wpAny_pure h⟩) hfit))
end
/-- a reversed copy -/
def revD : PyData → R PyData
  | .list ds => .ok (.list ds.reverse)
  | .tuple ds => .ok (.tuple ds.reverse)
  | _ => .bad
theorem pe_back {X : Cx} {e : Expr} {te : TE} {k : Nat} {p1 p2 p3 pos : Pos} (he : PE X e te) : PE X (.Subscript e (.Slice none none (some (.UnaryOp .USub (.Constant (.int 1) k p1) p2)) p3) pos) (tUn (rD1 X.K revD) te) := by
  refine ⟨fun pins s σ H Q I h => ?_⟩
  refine Subscript_ (thn (he.run pins s σ H _ I h) fun v s1 ⟨x, H1, I1, r1, q1⟩ => ?_)
  obtain ⟨F, d, r, tr, hd, hr, q⟩ := q1
  have hst : PO X (some (.UnaryOp .USub (.Constant (.int 1) k p1) p2)) (tPart (tUn (rU fun i => .int (-i)) (tC (.int 1)))) := po_some (pe_un un_neg pe_int)
  refine wpAny_Slice (thn (po_none.run pins s1 σ H1 (fun o H2 => o = none ∧ H2 = H1) I1 ⟨rfl, rfl⟩) fun vl s2 ⟨l, H2, I2, pl, el, e2⟩ => ?_)
  subst el e2
  refine thn (po_none.run pins s2 σ H2 (fun o H3 => o = none ∧ H3 = H2) I2 ⟨rfl, rfl⟩) fun vu s3 ⟨u, H3, I3, pu, eu, e3⟩ => ?_
  subst eu e3
  refine thn (hst.run pins s3 σ H3 (fun o H4 => o = some (-1) ∧ H4 = H3) I3 ⟨1, rfl, -1, rfl, rfl, rfl⟩) fun vs s4 ⟨o, H4, I4, ps, eo, e4⟩ => ?_
  subst eo e4
  have I5 : Inv X pins σ H4 { s4 with heap := s4.heap.push { cls := .type "slice", data := .fields #[vl, vu, vs] } } := I4.kept (t' := s4.toks) fun b ob q => Heap.get?_push_of_some _ q
  have fr : H4 (s4.heap.push { cls := .type "slice", data := .fields #[vl, vu, vs] }).objs.size = none := I5.hok.fresh (Nat.le_refl _)
  cases pl
  cases pu
  cases d with
  | list ds =>
    cases hr
    obtain ⟨a, xs, rfl, hx, rp⟩ := hd
    cases r1
    obtain ⟨its, rv, ht, hz⟩ := I5.list (.inl hx)
    have hlen := rv.length
    refine tail_any (ops := [.ref a, .ref s4.heap.objs.size]) ht.isList.typeIs (PySem.slot_list_getitem.lookup) ?_ (by with_unfolding_all rfl)
    refine wpAny_getItem_list_slice ht.isList (Heap.IsSliceOf.new _ .none .none vs) .none .none ps (by decide) ?_ (by rw [List.size_toArray]; omega)
    rw [PySem.W.krv_pick]
    refine ⟨.ref _, _, I5.laid (t' := s4.toks) (o := .lst xs.reverse) (fun b ob q => Heap.get?_push_of_some _ q) (Nat.le_refl _) ?_, rfl, q _ _ (same_upd fr) (Nw.mk fr (Rps.rev rp))⟩
    exact ⟨by rw [List.length_reverse]; exact hz, _, 0, rv.reverse, Heap.get?_push_size _ rfl⟩
  | tuple ds =>
    cases hr
    obtain ⟨a, xs, rfl, hx, rp⟩ := hd
    cases r1
    obtain ⟨its, rv, ht, hz⟩ := I5.tuple hx
    have hlen := rv.length
    refine tail_any (ops := [.ref a, .ref s4.heap.objs.size]) ht.typeIs PyProof.Rows.slot_tuple_getitem.lookup ?_ (by with_unfolding_all rfl)
    refine getT_back ht (Heap.IsSliceOf.new _ .none .none vs) ps ?_ (by rw [List.size_toArray]; omega)
    refine ⟨.ref _, _, I5.laid (t' := s4.toks) (o := .tup xs.reverse) (fun b ob q => Heap.get?_push_of_some _ q) (Nat.le_refl _) ?_, rfl, q _ _ (same_upd fr) ⟨_, xs.reverse, rfl, SqT.of upd_same, (Rps.rev rp).same (same_upd fr)⟩⟩
    exact ⟨by rw [List.length_reverse]; exact hz, _, rv.reverse, IsTup.new _ _⟩
  | _ => cases hr
end Pv


/-! expressions: what is reckoned (closures), compiled from the text -/
namespace Pv
open PySem PySem.Spec L2
open PyProof.Rows hiding St

abbrev Ph := Nat → List PyData → R PyData
abbrev CE := En → R PyData
abbrev CT := En → R Bool

/-! ### the makers -/
def cVar (i : Nat) : CE := fun ρ => match ρ[i]? with
  | some (.dat d false) => .ok d
  | _ => .bad
def cVarB (i : Nat) : CE := fun ρ => match ρ[i]? with
  | some (.dat d _) => .ok d
  | _ => .bad
def cK (d : PyData) : CE := fun _ => .ok d
/-- no exception may leave -/
def quiet {α : Type} : R α → R α
  | .exc _ _ => .bad
  | r => r
def c1 (g : PyData → R PyData) (a : CE) : CE := fun ρ => (a ρ).bind fun x => quiet (g x)
def c2 (g : PyData → PyData → R PyData) (a b : CE) : CE := fun ρ => (a ρ).bind fun x => (b ρ).bind fun y => quiet (g x y)
/-- .. of a list -/
def cMe (g : PyData → PyData → R PyData) (a b : CE) : CE := fun ρ => (a ρ).bind fun x => match x with
  | .list ds => (b ρ).bind fun y => quiet (g (.list ds) y)
  | _ => .bad
def cCh (g h : PyData → PyData → R PyData) (a b c : CE) : CE := fun ρ => (a ρ).bind fun x => (b ρ).bind fun y => (quiet (g x y)).bind fun z => match z with
  | .bool true => (c ρ).bind fun w => quiet (h y w)
  | .bool false => .ok (.bool false)
  | _ => .bad
def cAll : List CE → En → R (List PyData)
  | [], _ => .ok []
  | a :: as, ρ => (a ρ).bind fun d => (cAll as ρ).bind fun ds => .ok (d :: ds)
def cTup (as : List CE) : CE := fun ρ => (cAll as ρ).bind fun ds => if ds.length ≤ 1000 then .ok (.tuple ds) else .bad
def cLst (as : List CE) : CE := fun ρ => (cAll as ρ).bind fun ds => if ds.length ≤ 1000 then .ok (.list ds) else .bad
def isB : PyData → R Bool
  | .bool b => .ok b
  | _ => .bad
def cTst (a : CE) : CT := fun ρ => (a ρ).bind fun d => quiet (isB d)
def cNotT (t : CT) : CT := fun ρ => (t ρ).bind fun b => .ok (!b)
def cAndT (t u : CT) : CT := fun ρ => (t ρ).bind fun b => if b = true then u ρ else .ok false
def cOrT (t u : CT) : CT := fun ρ => (t ρ).bind fun b => if b = true then .ok true else u ρ
def cNotV (a : CE) : CE := fun ρ => (a ρ).bind fun d => (quiet (isB d)).bind fun b => .ok (.bool (!b))
def cAndV (a b : CE) : CE := fun ρ => (a ρ).bind fun d => (quiet (isB d)).bind fun k => if k = true then b ρ else .ok (.bool false)
def cOrV (a b : CE) : CE := fun ρ => (a ρ).bind fun d => (quiet (isB d)).bind fun k => if k = true then .ok (.bool true) else b ρ
def cIfE (t : CT) (a b : CE) : CE := fun ρ => (t ρ).bind fun k => if k = true then a ρ else b ρ
def optI : Option CE → En → R (Option Int)
  | none, _ => .ok none
  | some c, ρ => (c ρ).bind fun d => match d with
    | .int i => .ok (some i)
    | _ => .bad
def cSl (a : CE) (lo hi : Option CE) : CE := fun ρ => (a ρ).bind fun d => (optI lo ρ).bind fun l => (optI hi ρ).bind fun h => slD d l h
def tyD : PyData → String
  | .none => "NoneType"
  | .bool _ => "bool"
  | .int _ => "int"
  | .str _ => "str"
  | .list _ => "list"
  | .tuple _ => "tuple"
  | .dict _ => "dict"
def isiD (ts : List String) (d : PyData) : R PyData := .ok (.bool (ts.any fun t => (tyD d == t) || (t == "int" && tyD d == "bool")))
def ownAt (ρ : En) (i : Nat) : Bool := match ρ[i]? with
  | some (.dat _ true) => true
  | _ => false
def ownAny (os : List (Option Nat)) (ρ : En) : Bool := os.any fun o => match o with
  | some i => ownAt ρ i
  | none => false
def guardF (b : Bool) : R PyData → R PyData
  | .ok d => if b = true then (if flat d = true then .ok d else .bad) else .ok d
  | .exc n es => if b = true then (if flat.flats es = true then .exc n es else .bad) else .exc n es
  | .bad => .bad
def cCall (Φ : Ph) (f : Nat) (as : List CE) (os : List (Option Nat)) : CE := fun ρ => (cAll as ρ).bind fun ds => guardF (ownAny os ρ) (Φ f ds)
/-- the target's names, the item's parts -/
inductive Tg where
  | one (i : Nat) | tup (is : List Nat)
def setAll : List Nat → List PyData → En → Option En
  | [], [], ρ => some ρ
  | i :: is, d :: ds, ρ => setAll is ds (ρ.set i (.dat d false))
  | _, _, _ => none
def tgSet (g : Tg) (d : PyData) (ρ : En) : R En :=
  match g with
  | .one i => .ok (ρ.set i (.dat d false))
  | .tup is => (match d with
    | .tuple ds => (match setAll is ds ρ with
      | some ρ' => .ok ρ'
      | none => .bad)
    | _ => .bad)
def wipeE (ρ : En) : List Nat → En
  | [] => ρ
  | v :: vs => (wipeE ρ vs).set v .no
abbrev CI := En → R (List PyData)
def compL (g : Tg) (t : CT) (e : CE) (ρ : En) : List PyData → R (List PyData)
  | [] => .ok []
  | d :: ds => (tgSet g d ρ).bind fun ρ' => (t ρ').bind fun b => if b = true then (e ρ').bind fun y => (compL g t e ρ ds).bind fun ys => .ok (y :: ys) else compL g t e ρ ds
def cComp (it : CI) (vs : List Nat) (g : Tg) (t : CT) (e : CE) : CE := fun ρ => (it ρ).bind fun ds => if vs.any (ownAt ρ) = true then .bad else (quiet (compL g t e (wipeE ρ vs) ds)).bind fun ys => .ok (.list ys)
def tYesC : CT := fun _ => .ok true
def itD : PyData → R (List PyData)
  | .list ds | .tuple ds => .ok ds
  | .str z => if z.length ≤ 16000000 then .ok (z.cps.toList.map fun c => .str ⟨#[c]⟩) else .bad
  | _ => .bad
def cItE (a : CE) : CI := fun ρ => (a ρ).bind fun d => quiet (itD d)
def intB : PyData → R Int
  | .int i => if i.natAbs < 2 ^ 62 then .ok i else .bad
  | _ => .bad
def rangeL (a b : Int) : List PyData := (List.range (b - a).toNat).map fun (k : Nat) => .int (a + k)
def cRange1 (a : CE) : CI := fun ρ => (a ρ).bind fun d => (quiet (intB d)).bind fun i => if i ≤ 16000000 then .ok (rangeL 0 i) else .bad
def cRange2 (a b : CE) : CI := fun ρ => (a ρ).bind fun d => (b ρ).bind fun e => (quiet (intB d)).bind fun i => (quiet (intB e)).bind fun j => if j - i ≤ 16000000 then .ok (rangeL i j) else .bad
def enumL (ds : List PyData) : List PyData := ds.zipIdx.map fun p => .tuple [.int p.2, p.1]
def cEnum (a : CE) : CI := fun ρ => (a ρ).bind fun d => match d with
  | .list ds => .ok (enumL ds)
  | _ => .bad

/-! dicts -/
/-- d.get(k), d.get(k, x), of a dict whose keys are ints and texts -/
def cGet1 (a b : CE) : CE := fun ρ => (a ρ).bind fun d => match d with
  | .dict kvs => (b ρ).bind fun k => (match keyK k with
    | some κ => if allK kvs = true then .ok ((fndG keyK κ kvs).getD .none) else .bad
    | none => .bad)
  | _ => .bad
def cGet2 (a b c : CE) : CE := fun ρ => (a ρ).bind fun d => match d with
  | .dict kvs => (b ρ).bind fun k => (c ρ).bind fun x => (match keyK k with
    | some κ => if allK kvs = true then .ok ((fndG keyK κ kvs).getD x) else .bad
    | none => .bad)
  | _ => .bad
/-- a display's pairs -/
def cPrs : List (CE × CE) → En → R (List (PyData × PyData))
  | [], _ => .ok []
  | q :: r, ρ => (q.1 ρ).bind fun k => (q.2 ρ).bind fun d => (cPrs r ρ).bind fun ps => .ok ((k, d) :: ps)
def putK1 (kvs : List (PyData × PyData)) (p : PyData × PyData) : List (PyData × PyData) := match keyK p.1 with
  | some κ => putG keyK kD κ p.2 kvs
  | none => kvs
def cDisp (cs : List (CE × CE)) : CE := fun ρ => (cPrs cs ρ).bind fun ps => if allK ps = true ∧ ps.length ≤ 15 then .ok (.dict (ps.foldl putK1 [])) else .bad

/-! ### the text -/
structure FnI where
  name : Str
  params : Arguments
  ps : List Str
  body : List Stmt
  scope : Scope
  N : List Str
  sh : List Str := []
structure ClI where
  name : Str
  flds : List Str
  ups : List Str
structure GI where
  fns : List FnI
  cons : List (Str × PyData)
  cls : List ClI
structure Lc where
  N : List Str
  nm : List (Str × NameKind)
  calm : Bool := true
  en : Option Str := none
  sh : List Str := []
/-- a name whose list the block alters -/
def Lc.keeps (L : Lc) (x : Str) : Bool := !(L.sh.any fun y => decide (y = x))
def ixOf (x : Str) : List Str → Nat → Option Nat
  | [], _ => none
  | y :: ys, k => if x = y then some k else ixOf x ys (k + 1)
def Lc.slot (L : Lc) (x : Str) : Option Nat := match L.nm.lookup x with
  | some .local | some .cell | some .free => if x = ("__debug__" : Str) ∨ x = ("__classdict__" : Str) then none else ixOf x L.N 0
  | _ => none
def Lc.glob (L : Lc) (x : Str) : Bool := match L.nm.lookup x with
  | some .globalImplicit => !(x == ("__debug__" : Str)) && !(x == ("__name__" : Str))
  | _ => false
def notStar : Expr → Bool
  | .Starred _ _ => false
  | _ => true
def plainB : Expr → Bool
  | .Name _ _ | .Subscript _ _ _ => true
  | _ => false
def notSet : Expr → Bool
  | .Set _ _ _ => false
  | _ => true
def opF : Operator → Option (PyData → PyData → R PyData)
  | .Add => some addD
  | .Sub => some subD
  | .FloorDiv => some fdivD
  | .Mod => some modD
  | .Pow => some powD
  | _ => none
def cmpF : CmpOp → PyData → PyData → R PyData
  | .Eq => eqD
  | .NotEq => neD
  | .Lt => ltD
  | .LtE => leD
  | .Gt => gtD
  | .GtE => geD
  | .Is => isD
  | .IsNot => isntD
  | .In => inD
  | .NotIn => notInD
/-- the ints alone -/
def mulI : PyData → PyData → R PyData
  | .int i, e => mulD (.int i) e
  | _, _ => .bad
def fnIx (x : Str) : List FnI → Nat → Option (Nat × FnI)
  | [], _ => none
  | f :: fs, k => if x = f.name then some (k, f) else fnIx x fs (k + 1)
def tyName : Str → Option String := fun x =>
  if x = ("int" : Str) then some "int" else if x = ("bool" : Str) then some "bool" else if x = ("str" : Str) then some "str" else if x = ("list" : Str) then some "list" else if x = ("tuple" : Str) then some "tuple" else if x = ("dict" : Str) then some "dict" else none
def tysOf (L : Lc) : Expr → Option (List String)
  | .Name x _ => if L.glob x = true then (tyName x).map fun t => [t] else none
  | _ => none
def isTys (L : Lc) : Expr → Option (List String)
  | .Tuple es _ _ => if es.length ≤ 100 then (es.mapM (tysOf L)).map fun l => l.flatten else none
  | b => tysOf L b
/-- [::-1] -/
def revSl : Option Expr → Option Expr → Expr → Bool
  | none, none, .UnaryOp .USub (.Constant (.int i) _ _) _ => decide (i = 1)
  | _, _, _ => false
/-- tuple(range(b)), list(range(b)) -/
def rgOf (L : Lc) (x : Str) : Expr → Option Expr
  | .Call (.Name y _) [b] [] _ => if (x = ("tuple" : Str) ∨ x = ("list" : Str)) ∧ y = ("range" : Str) ∧ L.glob y = true ∧ L.calm = true ∧ notStar b = true then some b else none
  | _ => none
def cRgS (l : Bool) (a : CE) : CE := fun ρ => (cRange1 a ρ).bind fun ds => .ok (if l = true then .list ds else .tuple ds)
/-- the name of the exception that the suite holds -/
def exnOf (L : Lc) : Expr → Option Nat
  | .Name x _ => if L.en = some x then L.slot x else none
  | _ => none
/-- a built-in of one argument -/
def bi1 (calm : Bool) : Str → Option (Bool × (PyData → R PyData)) := fun x =>
  if x = ("len" : Str) then some (false, lenD) else if x = ("list" : Str) then some (true, if calm = true then listC else listD) else if x = ("tuple" : Str) then some (false, tupleD) else if x = ("int" : Str) then some (false, intD)
  else if calm = false then none else if x = ("sorted" : Str) then some (true, sortD) else if x = ("sum" : Str) then some (false, sumD) else if x = ("max" : Str) then some (false, maxLD) else if x = ("min" : Str) then some (false, minLD) else if x = ("abs" : Str) then some (false, absD) else none
def bi2 (calm : Bool) : Str → Option (PyData → PyData → R PyData) := fun x =>
  if calm = false then none else if x = ("max" : Str) then some max2D else if x = ("min" : Str) then some min2D else none
def countD (d e : PyData) : R PyData := match d with
  | .list ds => if (e.depth ≤ 60 ∧ noDic e = true) ∧ noDics ds = true then .ok (.int (ds.countP fun z => PyData.eqv z e : Nat)) else .bad
  | _ => .bad
def indexD (d e : PyData) : R PyData := match d with
  | .list ds => if (e.depth ≤ 60 ∧ noDic e = true) ∧ noDics ds = true then (match ds.findIdx? fun z => PyData.eqv z e with
    | some j => .ok (.int (j : Nat))
    | none => .bad) else .bad
  | _ => .bad
def me1 : Str → Option (PyData → PyData → R PyData) := fun x =>
  if x = ("count" : Str) then some countD else if x = ("index" : Str) then some indexD else none
/-- a name that the block may store -/
def Lc.lslot (L : Lc) (x : Str) : Option Nat := match L.nm.lookup x with
  | some .local | some .cell => L.slot x
  | _ => none
def tgName (L : Lc) : Expr → Option Nat
  | .Name x _ => L.lslot x
  | _ => none
/-- the names that a target stores -/
def tgOf (L : Lc) : Expr → Option Tg
  | .Name x _ => (L.lslot x).map .one
  | .Tuple es _ _ => (es.mapM (tgName L)).map .tup
  | _ => none
def Tg.ixs : Tg → List Nat
  | .one i => [i]
  | .tup is => is
/-- the block's own names with their places -/
def ownOf (N : List Str) (names : List (Str × NameKind)) : List (Str × Nat) := names.filterMap fun y => match y.2 with
  | .local | .cell => (ixOf y.1 N 0).map fun i => (y.1, i)
  | _ => none

def GI.flds (G : GI) (n : Str) : List Str := match G.cls.find? fun c => decide (c.name = n) with
  | some c => c.flds
  | none => []
def GI.ups (G : GI) (n : Str) : List Str := match G.cls.find? fun c => decide (c.name = n) with
  | some c => c.ups
  | none => []
def biExc : List Str := ["ValueError", "Exception", "TypeError", "KeyError", "IndexError"]
def GI.has (G : GI) (x : Str) : Bool := G.cls.any fun c => decide (c.name = x)
def GI.clsName (G : GI) (x : Str) : Bool := G.has x || decide (x ∈ biExc)
def exTy1 (G : GI) (L : Lc) : Expr → Option Str
  | .Name x _ => if L.glob x && G.clsName x then some x else none
  | _ => none
def exTys (G : GI) (L : Lc) : Expr → Option (List Str)
  | .Tuple es _ _ => if es.length ≤ 100 then es.mapM (exTy1 G L) else none
  | e => (exTy1 G L e).map fun x => [x]
/-- a field of the exception that a suite holds; its class -/
def cFld (G : GI) (i : Nat) (f : Str) : CE := fun ρ => match ρ[i]? with
  | some (.exn n ds) => if G.has n = true ∧ f ∈ G.flds n then (match ((G.flds n).zip ds).lookup f with
    | some d => .ok d
    | none => .bad) else .bad
  | _ => .bad
def cIsE (G : GI) (i : Nat) (ts : List Str) : CE := fun ρ => match ρ[i]? with
  | some (.exn n _) => if G.has n = true then .ok (.bool (ts.any fun t => decide (t ∈ G.ups n))) else .bad
  | _ => .bad

variable (G : GI) (Φ : Ph)
mutual
/-- an expression; the first part tells that a list which comes is new -/
def cE : Nat → Lc → Expr → Option (Bool × CE)
  | 0, _, _ => none
  | n + 1, L, e => match e with
    | .Name x _ => (match L.slot x with
      | some i => some (false, cVar i)
      | none => if L.glob x = true then (G.cons.lookup x).map fun d => (false, cK d) else none)
    | .Constant c _ _ => (match c with
      | .int i => some (false, cK (.int i))
      | .bool b => some (false, cK (.bool b))
      | .str s => some (false, cK (.str s))
      | .none => some (false, cK .none)
      | _ => none)
    | .BinOp a op b _ => (match op with
      | .Mult => (do
        let (fa, ca) ← cE n L a
        let cb ← cB n L b
        if fa then some (true, c2 mulD ca cb) else some (true, c2 mulI ca cb))
      | op => (do
        let g ← opF op
        let ca ← cB n L a
        let cb ← cB n L b
        some (true, c2 g ca cb)))
    | .UnaryOp op a _ => (match op with
      | .USub => (do let ca ← cB n L a; some (false, c1 negD ca))
      | .Not => (do let ca ← cB n L a; some (false, cNotV ca))
      | _ => none)
    | .BoolOp op es _ => (do let c ← cBo n L op es; some (false, c))
    | .Compare a ops bs _ => (match ops, bs with
      | [op], [b] => if notSet b = true then (do
        let ca ← cB n L a
        let cb ← cB n L b
        some (false, c2 (cmpF op) ca cb)) else none
      | [op, op'], [b, c] => if notSet b && notSet c then (do
        let ca ← cB n L a
        let cb ← cB n L b
        let cc ← cB n L c
        some (false, cCh (cmpF op) (cmpF op') ca cb cc)) else none
      | _, _ => none)
    | .IfExp t a b _ => (do
      let ct ← cT n L t
      let (_, ca) ← cE n L a
      let (_, cb) ← cE n L b
      some (false, cIfE ct ca cb))
    | .Subscript v i _ => (match i with
      | .Slice lo hi none _ => (do
        let cv ← cB n L v
        let cl ← cO n L lo
        let ch ← cO n L hi
        some (true, cSl cv cl ch))
      | .Slice lo hi (some z) _ => if revSl lo hi z = true then (do
        let cv ← cB n L v
        some (true, c1 revD cv)) else none
      | i => (do
        let cv ← cB n L v
        let ci ← cB n L i
        some (false, c2 ixD cv ci)))
    | .Tuple es _ _ => (do let cs ← cEs n L es; some (false, cTup cs))
    | .List es _ => (do let cs ← cEs n L es; some (true, cLst cs))
    | .Dict ks vs _ => (match ks, vs with
      | [], [] => some (true, cK (.dict []))
      | k :: ks, v :: vs => if ks.length ≤ 14 then (do
        let cs ← cPs n L (k :: ks) (v :: vs)
        some (true, cDisp cs)) else none
      | _, _ => none)
    | .ListComp elt gs sc _ => (match gs with
      | [⟨tg, it, ifs, ia⟩] => if ia = 0 ∧ (L.calm && notSet it) = true then (do
        let ci ← cI n L true it
        let own := ownOf L.N sc.names
        if blkC L.N { kind := .function, names := L.nm, isGenerator := false, isCoroutine := false } sc own = true then
          let L' : Lc := { N := L.N, nm := sc.names, calm := true, en := none }
          let g ← tgOf L' tg
          if (g.ixs.all fun i => decide (i ∈ own.map (·.2))) = true then
            let t ← (match ifs with | [] => some tYesC | [c] => cT n L' c | _ => none)
            let (_, ce) ← cE n L' elt
            some (true, cComp ci (own.map (·.2)) g t ce)
          else none
        else none) else none
      | _ => none)
    | .Attribute o f _ => (exnOf L o).map fun i => (false, cFld G i f)
    | .Call f as ks cpos => (match f, ks with
      | .Name x _, [] => if L.glob x = true ∧ as.all notStar = true then (match fnIx x G.fns 0 with
        | some (k, fi) => if as.length = fi.ps.length ∧ L.calm = true ∧ as.length ≠ 0 then (do
          let (cs, os) ← cAs n L as
          some (false, cCall Φ k cs os)) else none
        | none => (match as with
          | [a] => (match rgOf L x a with
            | some b => (do
              let cb ← cB n L b
              some (decide (x = ("list" : Str)), cRgS (decide (x = ("list" : Str))) cb))
            | none => (do
              let (fr, g) ← bi1 L.calm x
              let ca ← cB n L a
              some (fr, c1 g ca)))
          | [a, b] => if x = ("isinstance" : Str) then (match exnOf L a with
            | some i => (exTys G L b).map fun ts => (false, cIsE G i ts)
            | none => (do
              let ts ← isTys L b
              let ca ← cB n L a
              some (false, c1 (isiD ts) ca)))
            else (do
              let g ← bi2 L.calm x
              let ca ← cB n L a
              let cb ← cB n L b
              some (false, c2 g ca cb))
          | _ => none)) else none
      | .Attribute o m apos, [] => (match as with
        | [a] => if notStar a = true ∧ plainB o = true ∧ (apos.endLine == cpos.line) = true then (if m = ("get" : Str) then (do
          let co ← cB n L o
          let ca ← cB n L a
          some (false, cGet1 co ca)) else (do
          let g ← me1 m
          let co ← cB n L o
          let ca ← cB n L a
          some (false, cMe g co ca))) else none
        | [a, b] => if m = ("get" : Str) ∧ notStar a = true ∧ notStar b = true ∧ plainB o = true ∧ (apos.endLine == cpos.line) = true then (do
          let co ← cB n L o
          let ca ← cB n L a
          let (_, cb) ← cE n L b
          some (false, cGet2 co ca cb)) else none
        | _ => none)
      | _, _ => none)
    | _ => none
/-- .. at a place that only reads it -/
def cB : Nat → Lc → Expr → Option CE
  | 0, _, _ => none
  | n + 1, L, e => match e with
    | .Name x p => (match L.slot x with
      | some i => some (cVarB i)
      | none => (cE n L (.Name x p)).map (·.2))
    | e => (cE n L e).map (·.2)
def cEs : Nat → Lc → List Expr → Option (List CE)
  | 0, _, _ => none
  | n + 1, L, es => match es with
    | [] => some []
    | e :: r => if notStar e = true then (do
      let (_, c) ← cE n L e
      let cs ← cEs n L r
      some (c :: cs)) else none
def cPs : Nat → Lc → List (Option Expr) → List Expr → Option (List (CE × CE))
  | 0, _, _, _ => none
  | n + 1, L, ks, vs => match ks, vs with
    | [], [] => some []
    | some k :: ks, v :: vs => (do
      let ck ← cB n L k
      let (_, cv) ← cE n L v
      let cs ← cPs n L ks vs
      some ((ck, cv) :: cs))
    | _, _ => none
/-- arguments of a def: a list of one's own may be lent -/
def cAs : Nat → Lc → List Expr → Option (List CE × List (Option Nat))
  | 0, _, _ => none
  | n + 1, L, es => match es with
    | [] => some ([], [])
    | e :: r => (do
      let c ← cB n L e
      let (cs, os) ← cAs n L r
      some (c :: cs, (match e with | .Name x _ => L.slot x | _ => none) :: os))
def cO : Nat → Lc → Option Expr → Option (Option CE)
  | 0, _, _ => none
  | n + 1, L, o => match o with
    | none => some none
    | some e => (do let c ← cB n L e; some (some c))
def cBo : Nat → Lc → BoolOp → List Expr → Option CE
  | 0, _, _, _ => none
  | n + 1, L, op, es => match es with
    | [] => none
    | [a] => (cE n L a).map (·.2)
    | a :: r => (do
      let ca ← cB n L a
      let cr ← cBo n L op r
      match op with
      | .And => some (cAndV ca cr)
      | .Or => some (cOrV ca cr))
def cT : Nat → Lc → Expr → Option CT
  | 0, _, _ => none
  | n + 1, L, e => match e with
    | .UnaryOp .Not a _ => (do let t ← cT n L a; some (cNotT t))
    | .BoolOp op es _ => cTo n L op es
    | .IfExp _ _ _ _ => none
    | e => (do let c ← cB n L e; some (cTst c))
def cTo : Nat → Lc → BoolOp → List Expr → Option CT
  | 0, _, _, _ => none
  | n + 1, L, op, es => match es with
    | [] => none
    | [a] => cT n L a
    | a :: r => (do
      let ca ← cT n L a
      let cr ← cTo n L op r
      match op with
      | .And => some (cAndT ca cr)
      | .Or => some (cOrT ca cr))
/-- what a for walks; lent: a list of one's own may be walked (a comprehension) -/
def cI : Nat → Lc → Bool → Expr → Option CI
  | 0, _, _, _ => none
  | n + 1, L, lent, e => match e with
    | .Call (.Name x _) [a] [] _ => if (L.glob x && notStar a) && decide (x = ("range" : Str)) then (do let ca ← cB n L a; some (cRange1 ca)) else cI0 n L lent e
    | .Call (.Name x _) [a, b] [] _ => if (L.glob x && (notStar a && notStar b)) && decide (x = ("range" : Str)) then (do
        let ca ← cB n L a
        let cb ← cB n L b
        some (cRange2 ca cb)) else cI0 n L lent e
    | e => cI0 n L lent e
def cI0 : Nat → Lc → Bool → Expr → Option CI
  | 0, _, _, _ => none
  | n + 1, L, lent, e => if lent then (do let c ← cB n L e; some (cItE c)) else (do let (_, c) ← cE n L e; some (cItE c))
end
end Pv


/-! expressions: the closures tell what the text does -/
namespace Pv
open PySem PySem.Spec L2
open PyProof.Rows hiding St

theorem PE.imp {X : Cx} {e : Expr} {t t' : TE} (h : PE X e t) (hm : ∀ σ H Q, t' σ H Q → t σ H Q) : PE X e t' := ⟨fun pins s σ H Q I q => h.run pins s σ H Q I (hm σ H Q q)⟩
theorem PT.imp {X : Cx} {e : Expr} {t t' : TT} (h : PT X e t) (hm : ∀ σ H Q, t' σ H Q → t σ H Q) : PT X e t' := ⟨fun pins s σ H Q I q => h.run pins s σ H Q I (hm σ H Q q)⟩
theorem PW.imp {X : Cx} {e : Expr} {t t' : TT} (h : PW X e t) (hm : ∀ σ H Q, t' σ H Q → t σ H Q) : PW X e t' := ⟨fun wh pins s σ H Q I q => h.run wh pins s σ H Q I (hm σ H Q q)⟩
theorem PA.imp {X : Cx} {e : List Expr} {t t' : TA} (h : PA X e t) (hm : ∀ σ H Q, t' σ H Q → t σ H Q) : PA X e t' := ⟨fun pos pins s σ H Q I q => h.run pos pins s σ H Q I (hm σ H Q q)⟩

section
variable {K : PySem.W.Frag} {G : Gx} {W : WX} {σ : St} {H : Hp}
theorem Post.ok_of {α β : Type} {rep : (Addr → Prop) → Hp → α → β → Prop} {F : Addr → Prop} {r : R α} {Q : β → Hp → Prop} (p : Post K G W rep σ F H (quiet r) Q) : ∃ d, r = .ok d ∧ ∀ v H', Same H H' → rep F H' d v → Q v H' := by
  cases r with
  | ok d => exact ⟨d, rfl, p⟩
  | exc n ds => exact False.elim p
  | bad => exact False.elim p
theorem Post.weak {α β : Type} {rep rep' : (Addr → Prop) → Hp → α → β → Prop} {F : Addr → Prop} {r : R α} {Q : β → Hp → Prop} (p : Post K G W rep σ F H r Q) (h : ∀ d v H', Same H H' → rep' F H' d v → rep F H' d v) : Post K G W rep' σ F H r Q := by
  cases r with
  | ok d => exact fun v H' s q => p v H' s (h d v H' s q)
  | exc n ds => exact p
  | bad => exact p
theorem quiet_bind {α β γ : Type} {rep : (Addr → Prop) → Hp → β → γ → Prop} {F : Addr → Prop} {r : R α} {k : α → R β} {Q : γ → Hp → Prop} (p : Post K G W rep σ F H ((quiet r).bind k) Q) : ∃ d, r = .ok d ∧ Post K G W rep σ F H (k d) Q := by
  cases r with
  | ok d => exact ⟨d, rfl, p⟩
  | exc n ds => exact False.elim p
  | bad => exact False.elim p
end
theorem Nw.older {K : PySem.W.Frag} {H H1 H' : Hp} {F : Addr → Prop} {d : PyData} {v : V} (s : Same H H1) (h : Nw K H1 F H' d v) : Nw K H F H' d v := by
  cases d with
  | list ds => obtain ⟨p, vs, e, n, q, r⟩ := h; exact ⟨p, vs, e, s.free n, q, r⟩
  | dict kvs => obtain ⟨p, vs, o, e, n, q, c, r⟩ := h; exact ⟨p, vs, o, e, s.free n, q, c, r⟩
  | _ => exact h
theorem RE.trk {K : PySem.W.Frag} {G : Gx} {F M : Addr → Prop} {H₀ H : Hp} {ρ : En} {σ : St} (r : RE K G F H₀ M ρ σ H) : Trk (FF F ρ σ) H := fun a h => r.ff h

/-- the readings: a value, a new list where one comes, a value at hand, a truth, several values -/
def tE (K : PySem.W.Frag) (G : Gx) (W : WX) (c : CE) : TE := fun σ H Q => tR K G W (Rp K) c σ H Q
def tF (K : PySem.W.Frag) (G : Gx) (W : WX) (c : CE) : TE := fun σ H Q => tR K G W (Nw K H) c σ H Q
def tB (K : PySem.W.Frag) (G : Gx) (W : WX) (c : CE) : TE := fun σ H Q => tR K G W (Rb K) c σ H Q
def tTst (K : PySem.W.Frag) (G : Gx) (W : WX) (c : CT) : TT := fun σ H Q => tR K G W (fun _ _ (b b' : Bool) => b = b') c σ H Q
def tEs (K : PySem.W.Frag) (G : Gx) (W : WX) (c : En → R (List PyData)) : TA := fun σ H Q => tR K G W (Rps K) c σ H Q
section
variable {K : PySem.W.Frag} {G : Gx} {W : WX} {σ : St} {H : Hp} {Q : VK} {c : CE}
theorem tE_F (h : tE K G W c σ H Q) : tF K G W c σ H Q := by
  obtain ⟨F, H₀, M, ρ, re, p⟩ := h
  exact ⟨F, H₀, M, ρ, re, p.weak fun d v H' s q => q.rp re.trk⟩
theorem tB_E (h : tB K G W c σ H Q) : tE K G W c σ H Q := by
  obtain ⟨F, H₀, M, ρ, re, p⟩ := h
  exact ⟨F, H₀, M, ρ, re, p.weak fun d v H' s q => q.rb⟩
theorem tB_F (h : tB K G W c σ H Q) : tF K G W c σ H Q := tE_F (tB_E h)
/-! two values, an operator -/
theorem tF_c2 {g : PyData → PyData → R PyData} {a b : CE} (h : tF K G W (c2 g a b) σ H Q) : tOp (rD K g) (tB K G W a) (tB K G W b) σ H Q := by
  obtain ⟨F, H₀, M, ρ, re, p⟩ := h
  refine ⟨F, H₀, M, ρ, re, p.bind fun x v H1 s1 r1 p1 => ⟨F, H₀, M, ρ, re.same s1, p1.bind fun y u H2 s2 r2 p2 => ?_⟩⟩
  obtain ⟨r, e, q⟩ := p2.ok_of
  exact ⟨_, x, y, r, (re.same (s1.trans s2)).trk, r1.same s2, r2, e, fun w H' s' n => q w H' s' (n.older (s1.trans s2))⟩
theorem tE_c2 {g : PyData → PyData → R PyData} {a b : CE} (h : tE K G W (c2 g a b) σ H Q) : tOp (rD K g) (tB K G W a) (tB K G W b) σ H Q := tF_c2 (tE_F h)
theorem tF_c1 {g : PyData → R PyData} {a : CE} (h : tF K G W (c1 g a) σ H Q) : tB K G W a σ H fun x H1 => rD1 K g x H1 Q := by
  obtain ⟨F, H₀, M, ρ, re, p⟩ := h
  refine ⟨F, H₀, M, ρ, re, p.bind fun x v H1 s1 r1 p1 => ?_⟩
  obtain ⟨r, e, q⟩ := p1.ok_of
  exact ⟨_, x, r, (re.same s1).trk, r1, e, fun w H' s' n => q w H' s' (n.older s1)⟩
theorem tE_ix {a b : CE} (h : tE K G W (c2 ixD a b) σ H Q) : tOp (fun x y H Q => ∃ F d e r, Trk F H ∧ Rb K F H d x ∧ Rb K F H e y ∧ ixD d e = .ok r ∧ ∀ v H', Same H H' → Rp K F H' r v → Q v H') (tB K G W a) (tB K G W b) σ H Q := by
  obtain ⟨F, H₀, M, ρ, re, p⟩ := h
  refine ⟨F, H₀, M, ρ, re, p.bind fun x v H1 s1 r1 p1 => ⟨F, H₀, M, ρ, re.same s1, p1.bind fun y u H2 s2 r2 p2 => ?_⟩⟩
  obtain ⟨r, e, q⟩ := p2.ok_of
  exact ⟨_, x, y, r, (re.same (s1.trans s2)).trk, r1.same s2, r2, e, q⟩
theorem tF_mulD {a b : CE} (h : tF K G W (c2 mulD a b) σ H Q) : tOp (rMul K) (tF K G W a) (tB K G W b) σ H Q := by
  obtain ⟨F, H₀, M, ρ, re, p⟩ := h
  refine ⟨F, H₀, M, ρ, re, p.bind fun x v H1 s1 r1 p1 => ⟨F, H₀, M, ρ, re.same s1, p1.bind fun y u H2 s2 r2 p2 => ?_⟩⟩
  obtain ⟨r, e, q⟩ := p2.ok_of
  have rest : rD K mulD v u H2 Q := ⟨_, x, y, r, (re.same (s1.trans s2)).trk, ((r1.rp re.trk).same s2).rb, r2, e, fun w H' s' n => q w H' s' (n.older (s1.trans s2))⟩
  cases x with
  | list ds =>
    obtain ⟨pp, vs, ev, np, q1, _⟩ := r1
    exact .inl ⟨pp, vs, ev, s2 _ _ q1, rest⟩
  | int i => exact .inr ⟨i, r1, rest⟩
  | none => cases e
  | bool _ => cases e
  | str _ => cases e
  | tuple _ => cases e
  | dict _ => cases e
theorem tF_mulI {a b : CE} (h : tF K G W (c2 mulI a b) σ H Q) : tOp (rMul K) (tB K G W a) (tB K G W b) σ H Q := by
  obtain ⟨F, H₀, M, ρ, re, p⟩ := h
  refine ⟨F, H₀, M, ρ, re, p.bind fun x v H1 s1 r1 p1 => ⟨F, H₀, M, ρ, re.same s1, p1.bind fun y u H2 s2 r2 p2 => ?_⟩⟩
  obtain ⟨r, e, q⟩ := p2.ok_of
  cases x with
  | int i =>
    cases rd_ints r1
    exact .inr ⟨i, rfl, _, .int i, y, r, (re.same (s1.trans s2)).trk, rfl, r2, e, fun w H' s' n => q w H' s' (n.older (s1.trans s2))⟩
  | none => cases e
  | bool _ => cases e
  | str _ => cases e
  | list _ => cases e
  | tuple _ => cases e
  | dict _ => cases e
/-! tests -/
theorem isB_ok {d : PyData} {b : Bool} (h : isB d = .ok b) : d = .bool b := by
  cases d with
  | bool c => cases h; rfl
  | _ => cases h
theorem tTst_E {c : CE} {Q : Bool → Hp → Prop} (h : tTst K G W (cTst c) σ H Q) : tB K G W c σ H fun x H' => ∃ k, x = .bl k ∧ Q k H' := by
  obtain ⟨F, H₀, M, ρ, re, p⟩ := h
  refine ⟨F, H₀, M, ρ, re, p.bind fun x v H1 s1 r1 p1 => ?_⟩
  obtain ⟨b, e, q⟩ := p1.ok_of
  cases isB_ok e
  exact ⟨b, r1, q b H1 (Same.refl H1) rfl⟩
theorem tTst_not {t : CT} {Q : Bool → Hp → Prop} (h : tTst K G W (cNotT t) σ H Q) : tNot (tTst K G W t) σ H Q := by
  obtain ⟨F, H₀, M, ρ, re, p⟩ := h
  exact ⟨F, H₀, M, ρ, re, p.bind fun x v H1 s1 r1 p1 => by subst r1; exact p1 _ H1 (Same.refl H1) rfl⟩
theorem tTst_and {t u : CT} {Q : Bool → Hp → Prop} (h : tTst K G W (cAndT t u) σ H Q) : tAnd (tTst K G W t) (tTst K G W u) σ H Q := by
  obtain ⟨F, H₀, M, ρ, re, p⟩ := h
  refine ⟨F, H₀, M, ρ, re, p.bind fun x v H1 s1 r1 p1 => ?_⟩
  subst r1
  cases x with
  | true => exact ⟨F, H₀, M, ρ, re.same s1, p1⟩
  | false => exact p1 _ H1 (Same.refl H1) rfl
theorem tTst_or {t u : CT} {Q : Bool → Hp → Prop} (h : tTst K G W (cOrT t u) σ H Q) : tOr (tTst K G W t) (tTst K G W u) σ H Q := by
  obtain ⟨F, H₀, M, ρ, re, p⟩ := h
  refine ⟨F, H₀, M, ρ, re, p.bind fun x v H1 s1 r1 p1 => ?_⟩
  subst r1
  cases x with
  | false => exact ⟨F, H₀, M, ρ, re.same s1, p1⟩
  | true => exact p1 _ H1 (Same.refl H1) rfl
theorem tE_notV {a : CE} (h : tE K G W (cNotV a) σ H Q) : tNotV (tB K G W a) σ H Q := by
  obtain ⟨F, H₀, M, ρ, re, p⟩ := h
  refine ⟨F, H₀, M, ρ, re, p.bind fun x v H1 s1 r1 p1 => ?_⟩
  obtain ⟨b, e, q⟩ := quiet_bind p1
  cases isB_ok e
  exact ⟨b, r1, q _ H1 (Same.refl H1) rfl⟩
theorem tE_andV {a b : CE} (h : tE K G W (cAndV a b) σ H Q) : tAndV (tB K G W a) (tE K G W b) σ H Q := by
  obtain ⟨F, H₀, M, ρ, re, p⟩ := h
  refine ⟨F, H₀, M, ρ, re, p.bind fun x v H1 s1 r1 p1 => ?_⟩
  obtain ⟨k, e, q⟩ := quiet_bind p1
  cases isB_ok e
  refine ⟨k, r1, ?_⟩
  cases k with
  | true => exact ⟨F, H₀, M, ρ, re.same s1, q⟩
  | false => exact q _ H1 (Same.refl H1) rfl
theorem tE_orV {a b : CE} (h : tE K G W (cOrV a b) σ H Q) : tOrV (tB K G W a) (tE K G W b) σ H Q := by
  obtain ⟨F, H₀, M, ρ, re, p⟩ := h
  refine ⟨F, H₀, M, ρ, re, p.bind fun x v H1 s1 r1 p1 => ?_⟩
  obtain ⟨k, e, q⟩ := quiet_bind p1
  cases isB_ok e
  refine ⟨k, r1, ?_⟩
  cases k with
  | false => exact ⟨F, H₀, M, ρ, re.same s1, q⟩
  | true => exact q _ H1 (Same.refl H1) rfl
theorem tE_ifE {t : CT} {a b : CE} (h : tE K G W (cIfE t a b) σ H Q) : tIf (tTst K G W t) (tE K G W a) (tE K G W b) σ H Q := by
  obtain ⟨F, H₀, M, ρ, re, p⟩ := h
  refine ⟨F, H₀, M, ρ, re, p.bind fun x v H1 s1 r1 p1 => ?_⟩
  subst r1
  cases x with
  | true => exact ⟨F, H₀, M, ρ, re.same s1, p1⟩
  | false => exact ⟨F, H₀, M, ρ, re.same s1, p1⟩
theorem tE_ch {g h : PyData → PyData → R PyData} {a b c : CE} (hh : tE K G W (cCh g h a b c) σ H Q) : tChain (rD K g) (rD K h) (tB K G W a) (tB K G W b) (tB K G W c) σ H Q := by
  obtain ⟨F, H₀, M, ρ, re, p⟩ := hh
  refine ⟨F, H₀, M, ρ, re, p.bind fun x v H1 s1 r1 p1 => ⟨F, H₀, M, ρ, re.same s1, p1.bind fun y u H2 s2 r2 p2 => ?_⟩⟩
  obtain ⟨z, e, q⟩ := quiet_bind p2
  refine ⟨_, x, y, z, (re.same (s1.trans s2)).trk, r1.same s2, r2, e, fun w H3 s3 n3 => ?_⟩
  cases z with
  | bool k =>
    refine ⟨k, n3, ?_⟩
    cases k with
    | false => exact q _ H3 s3 rfl
    | true =>
      have re3 := re.same ((s1.trans s2).trans s3)
      refine ⟨F, H₀, M, ρ, re3, (Post.same q s3).bind fun w' v4 H4 s4 r4 p4 => ?_⟩
      obtain ⟨z', e', q'⟩ := p4.ok_of
      exact ⟨_, y, w', z', (re3.same s4).trk, r2.same (s3.trans s4), r4, e', fun v5 H5 s5 n5 => q' v5 H5 s5 (n5.rp (re3.same s4).trk)⟩
  | _ => exact False.elim q
/-! displays -/
theorem tEs_nil {Q : List V → Hp → Prop} (h : tEs K G W (cAll []) σ H Q) : tNil σ H Q := by
  obtain ⟨F, H₀, M, ρ, re, p⟩ := h
  exact p [] H (Same.refl H) rfl
theorem tEs_cons {c : CE} {cs : List CE} {Q : List V → Hp → Prop} (h : tEs K G W (cAll (c :: cs)) σ H Q) : tCons (tE K G W c) (tEs K G W (cAll cs)) σ H Q := by
  obtain ⟨F, H₀, M, ρ, re, p⟩ := h
  refine ⟨F, H₀, M, ρ, re, p.bind fun x v H1 s1 r1 p1 => ⟨F, H₀, M, ρ, re.same s1, p1.bind fun ys us H2 s2 r2 p2 => ?_⟩⟩
  exact p2 _ H2 (Same.refl H2) ⟨v, us, rfl, r1.same s2, r2⟩
theorem tE_tup {cs : List CE} (h : tE K G W (cTup cs) σ H Q) : tTup (tEs K G W (cAll cs)) σ H Q := by
  obtain ⟨F, H₀, M, ρ, re, p⟩ := h
  refine ⟨F, H₀, M, ρ, re, p.bind fun ds vs H1 s1 r1 p1 => ?_⟩
  have hl := Rps.length r1
  split at p1
  · rename_i hz
    refine ⟨?_, fun a na => p1 _ _ (same_upd na) ⟨a, vs, rfl, SqT.of upd_same, Rps.same r1 (same_upd na)⟩⟩
    have := sizeLine_eq
    omega
  · exact False.elim p1
theorem tF_lst {cs : List CE} (h : tF K G W (cLst cs) σ H Q) : tLst (tEs K G W (cAll cs)) σ H Q := by
  obtain ⟨F, H₀, M, ρ, re, p⟩ := h
  refine ⟨F, H₀, M, ρ, re, p.bind fun ds vs H1 s1 r1 p1 => ?_⟩
  have hl := Rps.length r1
  split at p1
  · rename_i hz
    refine ⟨?_, fun a na => p1 _ _ (same_upd na) (Nw.older s1 (Nw.mk na r1))⟩
    have := sizeLine_eq
    omega
  · exact False.elim p1
/-! slices -/
def tO (K : PySem.W.Frag) (G : Gx) (W : WX) (o : Option CE) : TO := fun σ H Q => tR K G W (fun _ _ (x y : Option Int) => x = y) (optI o) σ H Q
theorem tO_none {Q : Option Int → Hp → Prop} (h : tO K G W none σ H Q) : tNoPart σ H Q := by
  obtain ⟨F, H₀, M, ρ, re, p⟩ := h
  exact p none H (Same.refl H) rfl
theorem tO_some {c : CE} {Q : Option Int → Hp → Prop} (h : tO K G W (some c) σ H Q) : tPart (tB K G W c) σ H Q := by
  obtain ⟨F, H₀, M, ρ, re, p⟩ := h
  refine ⟨F, H₀, M, ρ, re, p.bind fun x v H1 s1 r1 p1 => ?_⟩
  cases x with
  | int i => exact ⟨i, r1, p1 (some i) H1 (Same.refl H1) rfl⟩
  | _ => exact False.elim p1
theorem slD_ok {d : PyData} {l h : Option Int} : (∃ r, slD d l h = .ok r) ∨ slD d l h = .bad := by
  cases d <;> simp [slD]
theorem tF_sl {a : CE} {lo hi : Option CE} (h : tF K G W (cSl a lo hi) σ H Q) : tSl (rSlD K) (tB K G W a) (tO K G W lo) (tO K G W hi) σ H Q := by
  obtain ⟨F, H₀, M, ρ, re, p⟩ := h
  refine ⟨F, H₀, M, ρ, re, p.bind fun x v H1 s1 r1 p1 => ⟨F, H₀, M, ρ, re.same s1, p1.bind fun l l' H2 s2 r2 p2 => ⟨F, H₀, M, ρ, re.same (s1.trans s2), p2.bind fun u u' H3 s3 r3 p3 => ?_⟩⟩⟩
  subst r2 r3
  rcases slD_ok (d := x) (l := l) (h := u) with ⟨r, e⟩ | e
  · rw [e] at p3
    exact ⟨_, x, r, (re.same ((s1.trans s2).trans s3)).trk, r1.same (s2.trans s3), e, fun w H' s' n => p3 w H' s' (n.older ((s1.trans s2).trans s3))⟩
  · rw [e] at p3
    exact False.elim p3
end
end Pv


/-! names, calls, walks -/
namespace Pv
open PySem PySem.Spec L2
open PyProof.Rows hiding St

/-- the names of the block -/
structure NmOk (L : Lc) (X : Cx) : Prop where
  N : X.N = L.N
  nd : L.N.Nodup
  loc : ∀ x, L.nm.lookup x = some .local → X.env.scope.names.lookup x = some .local
  cel : ∀ x, L.nm.lookup x = some .cell → X.env.scope.names.lookup x = some .cell
  fre : ∀ x, L.nm.lookup x = some .free → X.env.scope.names.lookup x = some .cell ∨ X.env.scope.names.lookup x = some .free
  glo : ∀ x, L.nm.lookup x = some .globalImplicit → X.env.kindOf x = some .globalImplicit
  fn : ∀ x, L.nm.lookup x = some .cell → X.fn x = true
def biNames : List Str := ["len", "list", "tuple", "int", "sorted", "sum", "max", "min", "abs", "isinstance", "range", "bool", "str", "dict", "enumerate", "repr", "reversed", "zip", "set"]
def gxOf (G : GI) (mg : Str → Option Value) : Gx := { mg := mg, flds := G.flds }
/-- what a def's promise says -/
def spF (K : PySem.W.Frag) (G : Gx) (Φ : Ph) (np i : Nat) : Sp := fun vs H Q E => vs.length = np ∧ ∃ F ds, Trk F H ∧ Rps K F H ds vs ∧
  match Φ i ds with
  | .ok d => ∀ v H', Same H H' → Rp K F H' d v → Q v H'
  | .exc n es => ∀ cls od H', Same H H' → XR K G F H' n es cls od → E cls od H'
  | .bad => False
/-- the class value that a name tells -/
def ClsOf (G : GI) (mg : Str → Option Value) (t : Str) (cv : Value) : Prop := (G.has t = true ∧ mg t = some cv) ∨ (t ∈ biExc ∧ mg t = none ∧ bootBuiltins t = some cv)
structure ClOk (G : GI) (K : PySem.W.Frag) (mg : Str → Option Value) (n : Str) (C : Addr) : Prop where
  hg : PySem.W.findIn K (.ref C) "__getattribute__" = some (some (.builtin "BaseException.__getattribute__"))
  hk : PySem.W.findIn K (.ref C) "__getattr__" = some none
  hs : PySem.W.subIn K (.ref C) (.type "BaseException") = some true
  hd : PySem.W.hasDictIn K C = true
  ha : PySem.W.findIn K (.ref C) "__class__" = some (some (.builtin "object.__class__"))
  hn : PySem.W.specialIn K (.builtin "object.__class__") "__get__" = some (some (.builtin "getset_descriptor.__get__"))
  ht : PySem.W.takesIn K (.builtin "object.__class__") = some true
  hm : PySem.W.mroIn K C (.type "object") = some true
  fl : ∀ f ∈ G.flds n, PySem.W.findIn K (.ref C) f = some none
  is : ∀ t cv, ClsOf G mg t cv → PySem.W.kitOne K (.ref C) cv = some (decide (t ∈ G.ups n))
  ex : ∀ t cv, ClsOf G mg t cv → PySem.W.exmOne K (.ref C) cv = some (decide (t ∈ G.ups n))
structure GOk (Gr : Gx) (G : GI) (Φ : Ph) (k : Nat) (P : Program) (w : World) (K : PySem.W.Frag) (mg : Str → Option Value) (base : Heap) : Prop where
  bi : ∀ x ∈ biNames, mg x = none
  fns : ∀ i f, G.fns[i]? = some f → ∃ (a : Addr) (fd : FuncData), mg f.name = some (.ref a) ∧ PySem.W.keepIn K (.ref a) = true ∧ Binds K fd f.ps [] ∧ FnOk P w K mg base (L2.CX P w) (k + 2) a fd f.ps (spF K Gr Φ f.ps.length i)
  cls : ∀ n C, G.has n = true → mg n = some (.ref C) → ClOk G K mg n C
  nms : ∀ t, G.clsName t = true → ∃ cv, ClsOf G mg t cv ∧ ((∃ a, cv = .ref a) ∨ ∃ n, cv = .type n)
  mkx : ∀ (X : Cx), X.prog = P → X.w = w → X.K = K → X.mg = mg → X.base = base → Room 2 X.A → ∀ c ∈ G.cls, ∃ C, mg c.name = some (.ref C) ∧ (Gl X c.name → (c.name == ("__debug__" : Str)) = false →
    ∀ {e : Expr} {es : List Expr} {ta : TA} {p pos : Pos}, PA X (e :: es) ta → starEach (e :: es) X.env = (false, eval e X.env) :: starEach es X.env → (backTo pos (starEach es X.env)).any (·.1) = false →
      PMk X (.Call (.Name c.name p) (e :: es) [] pos) (fun σ H Q => ta σ H fun vs H1 => vs.length ≤ 1000 ∧ (c.flds = [] → Q (.ref C) none H1) ∧ (c.flds ≠ [] → vs.length = c.flds.length ∧ ∀ dx, H1 dx = none → Q (.ref C) (some dx) (upd H1 dx (.xd (c.flds.zip vs.reverse))))))
  cons : ∀ x d, G.cons.lookup x = some d → ∃ u v, mg x = some u ∧ RelV v u ∧ ∀ F H, Rp K F H d v
structure EOk (Gr : Gx) (G : GI) (Φ : Ph) (k : Nat) (L : Lc) (X : Cx) (W : WX) : Prop where
  calm : L.calm = true → X.calm = true
  room : L.calm = true → Room (k + 2) X.A
  un : X.A.units + 200 < cLine
  tk : Takes X W
  nm : NmOk L X
  gl : GOk Gr G Φ k X.prog X.w X.K X.mg X.base
  fl : Gr.flds = G.flds
  mg : Gr.mg = X.mg
  sxc : L.calm = true → Gr.sx = none
  sx : ∀ a C od, Gr.sx = some (a, C, od) → ∃ (X0 : Cx) (oe : Obj) (pn : List (Addr × Obj)), X = X0.suite a ((a, oe) :: pn) ∧ Zc (.ref C) od oe ∧ ∃ vs, oe.data = .fields vs

theorem ixOf_at {x : Str} : ∀ {l : List Str} {k i : Nat}, ixOf x l k = some i → k ≤ i ∧ l[i - k]? = some x
  | [], _, _, h => by cases h
  | y :: ys, k, i, h => by
    unfold ixOf at h
    split at h
    · rename_i e
      cases h
      subst e
      exact ⟨Nat.le_refl _, by simp⟩
    · obtain ⟨h1, h2⟩ := ixOf_at h
      refine ⟨by omega, ?_⟩
      have e : i - k = (i - (k + 1)) + 1 := by omega
      rw [e]
      simpa using h2
structure SlotOk (L : Lc) (X : Cx) (x : Str) (i : Nat) : Prop where
  at_ : X.N[i]? = some x
  vis : Vis X.env.scope x
  d1 : (x == ("__debug__" : Str)) = false
  d2 : (x == ("__classdict__" : Str)) = false
theorem slot_ok {L : Lc} {X : Cx} (n : NmOk L X) {x : Str} {i : Nat} (h : L.slot x = some i) : SlotOk L X x i := by
  unfold Lc.slot at h
  have key : ∀ (hv : Vis X.env.scope x), (if x = ("__debug__" : Str) ∨ x = ("__classdict__" : Str) then none else ixOf x L.N 0) = some i → SlotOk L X x i := by
    intro hv h
    split at h
    · cases h
    · rename_i hne
      obtain ⟨_, h2⟩ := ixOf_at h
      refine ⟨by rw [n.N]; simpa using h2, hv, ?_, ?_⟩
      · exact beq_eq_false_iff_ne.mpr fun z => hne (.inl z)
      · exact beq_eq_false_iff_ne.mpr fun z => hne (.inr z)
  split at h
  · exact key (.inl (n.loc x (by assumption))) h
  · exact key (.inr (.inl (n.cel x (by assumption)))) h
  · rcases n.fre x (by assumption) with z | z
    · exact key (.inr (.inl z)) h
    · exact key (.inr (.inr z)) h
  · cases h
structure GlobOk (X : Cx) (x : Str) : Prop where
  gl : Gl X x
  d1 : (x == ("__debug__" : Str)) = false
  nn : x ≠ "__name__"
theorem glob_ok {L : Lc} {X : Cx} (n : NmOk L X) {x : Str} (h : L.glob x = true) : GlobOk X x := by
  unfold Lc.glob at h
  split at h
  · rename_i z
    rw [Bool.and_eq_true, Bool.not_eq_true', Bool.not_eq_true'] at h
    exact ⟨n.glo x z, h.1, fun e => by rw [e] at h; exact absurd h.2 (by decide)⟩
  · cases h
section
variable {Gr : Gx} {G : GI} {Φ : Ph} {k : Nat} {L : Lc} {X : Cx} {W : WX}
theorem re_own {K : PySem.W.Frag} {F M : Addr → Prop} {H₀ H : Hp} {ρ : En} {σ : St} (re : RE K Gr F H₀ M ρ σ H) {i : Nat} {d : PyData} (h : ρ[i]? = some (.dat d true)) : ∃ v, σ[i]? = some (some v) ∧ Rb K (FF F ρ σ) H d v := by
  obtain ⟨a, e1, q⟩ := re.ow i d h
  exact ⟨_, e1, q.rb⟩
theorem sn_var (ok : EOk Gr G Φ k L X W) {x : Str} {i : Nat} {p : Pos} (h : L.slot x = some i) : PE X (.Name x p) (tE X.K Gr W (cVar i)) := by
  have s := slot_ok ok.nm h
  refine PE.imp (pe_var s.at_ s.vis s.d1 s.d2) fun σ H Q hh => ?_
  obtain ⟨F, H₀, M, ρ, re, q⟩ := hh
  unfold cVar at q
  split at q
  · rename_i d e
    obtain ⟨v, e1, r⟩ := re.pl i d e
    exact ⟨v, e1, q v H (Same.refl H) r⟩
  · exact False.elim q
theorem sn_varB (ok : EOk Gr G Φ k L X W) {x : Str} {i : Nat} {p : Pos} (h : L.slot x = some i) : PE X (.Name x p) (tB X.K Gr W (cVarB i)) := by
  have s := slot_ok ok.nm h
  refine PE.imp (pe_var s.at_ s.vis s.d1 s.d2) fun σ H Q hh => ?_
  obtain ⟨F, H₀, M, ρ, re, q⟩ := hh
  unfold cVarB at q
  split at q
  · rename_i d b e
    cases b with
    | false =>
      obtain ⟨v, e1, r⟩ := re.pl i d e
      exact ⟨v, e1, q v H (Same.refl H) r.rb⟩
    | true =>
      obtain ⟨v, e1, r⟩ := re_own re e
      exact ⟨v, e1, q v H (Same.refl H) r⟩
  · exact False.elim q
theorem sn_con (ok : EOk Gr G Φ k L X W) {x : Str} {d : PyData} {p : Pos} (h : L.glob x = true) (hc : G.cons.lookup x = some d) : PE X (.Name x p) (tE X.K Gr W (cK d)) := by
  have g := glob_ok ok.nm h
  obtain ⟨u, v, hm, r, hr⟩ := ok.gl.cons x d hc
  refine PE.imp (pe_glob g.gl hm r g.d1) fun σ H Q hh => ?_
  obtain ⟨F, H₀, M, ρ, re, q⟩ := hh
  exact q v H (Same.refl H) (hr _ _)
theorem sn_k {e : Expr} {v : V} {d : PyData} (h : PE X e (tC v)) (hr : ∀ F H, Rp X.K F H d v) : PE X e (tE X.K Gr W (cK d)) := by
  refine PE.imp h fun σ H Q hh => ?_
  obtain ⟨F, H₀, M, ρ, re, q⟩ := hh
  exact q v H (Same.refl H) (hr _ _)

/-! ### plain arguments -/
theorem star_cons {e : Expr} {es : List Expr} {env : Env} (h : notStar e = true) : starEach (e :: es) env = (false, eval e env) :: starEach es env := by
  cases e <;> first | rfl | cases h
theorem star_plain {pos : Pos} {env : Env} : ∀ {es : List Expr}, es.all notStar = true → (backTo pos (starEach es env)).any (·.1) = false
  | [], _ => rfl
  | e :: es, h => by
    rw [List.all_cons, Bool.and_eq_true] at h
    rw [star_cons h.1]
    exact star_plain h.2
theorem sn_es_nil : PA X [] (tEs X.K Gr W (cAll [])) := PA.imp pa_nil fun σ H Q => tEs_nil
theorem sn_es_cons {e : Expr} {es : List Expr} {c : CE} {cs : List CE} (hs : notStar e = true) (h1 : PE X e (tE X.K Gr W c)) (h2 : PA X es (tEs X.K Gr W (cAll cs))) : PA X (e :: es) (tEs X.K Gr W (cAll (c :: cs))) :=
  PA.imp (pa_cons h1 h2 (star_cons hs)) fun σ H Q => tEs_cons

/-! ### calls of defs: a list of one's own may be lent -/
def Ra (K : PySem.W.Frag) (ρ : En) : List (Option Nat) → (Addr → Prop) → Hp → List PyData → List V → Prop
  | [], _, _, ds, vs => ds = [] ∧ vs = []
  | o :: os, F, H, ds, vs => ∃ d r v w, ds = d :: r ∧ vs = v :: w ∧ (if ownAny [o] ρ = true then Rb K F H d v else Rp K F H d v) ∧ Ra K ρ os F H r w
def tAs (K : PySem.W.Frag) (G : Gx) (W : WX) (cs : List CE) (os : List (Option Nat)) : TA := fun σ H Q => ∃ F H₀ M ρ, RE K G F H₀ M ρ σ H ∧ Post K G W (Ra K ρ os) σ (FF F ρ σ) H (cAll cs ρ) Q
def tA1 (K : PySem.W.Frag) (G : Gx) (W : WX) (c : CE) (o : Option Nat) : TE := fun σ H Q => ∃ F H₀ M ρ, RE K G F H₀ M ρ σ H ∧ Post K G W (fun F H d v => if ownAny [o] ρ = true then Rb K F H d v else Rp K F H d v) σ (FF F ρ σ) H (c ρ) Q
theorem tAs_nil {K : PySem.W.Frag} {G : Gx} {σ : St} {H : Hp} {Q : List V → Hp → Prop} (h : tAs K G W [] [] σ H Q) : tNil σ H Q := by
  obtain ⟨F, H₀, M, ρ, re, p⟩ := h
  exact p [] H (Same.refl H) ⟨rfl, rfl⟩
theorem tAs_cons {K : PySem.W.Frag} {G : Gx} {σ : St} {H : Hp} {c : CE} {cs : List CE} {o : Option Nat} {os : List (Option Nat)} {Q : List V → Hp → Prop} (h : tAs K G W (c :: cs) (o :: os) σ H Q) : tCons (tA1 K G W c o) (tAs K G W cs os) σ H Q := by
  obtain ⟨F, H₀, M, ρ, re, p⟩ := h
  refine ⟨F, H₀, M, ρ, re, Post.bind (rep2 := fun F H d v => if ownAny [o] ρ = true then Rb K F H d v else Rp K F H d v) p fun x v H1 s1 r1 p1 => ⟨F, H₀, M, ρ, re.same s1, Post.bind (rep2 := Ra K ρ os) p1 fun ys us H2 s2 r2 p2 => ?_⟩⟩
  refine p2 _ H2 (Same.refl H2) ⟨x, ys, v, us, rfl, rfl, ?_, r2⟩
  split at r1
  · rename_i z; rw [if_pos z]; exact r1.same s2
  · rename_i z; rw [if_neg z]; exact r1.same s2
theorem ra_rps {K : PySem.W.Frag} {ρ : En} {F F' : Addr → Prop} {H : Hp} : ∀ {os : List (Option Nat)} {ds : List PyData} {vs : List V}, Ra K ρ os F H ds vs → (∀ a, F' a → F a) → ((∀ a, F' a → V.ref a ∉ vs) ∨ ownAny os ρ = false) → Rps K F' H ds vs
  | [], _, _, ⟨e1, e2⟩, _, _ => by subst e1 e2; rfl
  | o :: os, _, _, ⟨d, r, v, w, e1, e2, h1, h2⟩, hF, hn => by
    subst e1 e2
    have hn' : (∀ a, F' a → V.ref a ∉ w) ∨ ownAny os ρ = false := by
      rcases hn with hn | hn
      · exact .inl fun a ha z => hn a ha (List.mem_cons_of_mem _ z)
      · refine .inr ?_
        unfold ownAny at hn ⊢
        rw [List.any_cons, Bool.or_eq_false_iff] at hn
        exact hn.2
    refine ⟨v, w, rfl, ?_, ra_rps h2 hF hn'⟩
    split at h1
    · rename_i z
      rcases hn with hn | hn
      · cases d with
        | list ds =>
          obtain ⟨a, vs, rfl, q, r⟩ := h1
          exact ⟨a, vs, rfl, fun z => hn a z List.mem_cons_self, q, r.less hF⟩
        | dict kvs =>
          obtain ⟨a, vs, o, rfl, q, c, r⟩ := h1
          exact ⟨a, vs, o, rfl, fun z => hn a z List.mem_cons_self, q, c, r.less hF⟩
        | none => exact Rp.less (K := K) (F := F) (d := .none) h1 hF
        | bool _ => exact Rp.less (K := K) (F := F) (d := .bool _) h1 hF
        | int _ => exact Rp.less (K := K) (F := F) (d := .int _) h1 hF
        | str _ => exact Rp.less (K := K) (F := F) (d := .str _) h1 hF
        | tuple _ => exact Rp.less (K := K) (F := F) (d := .tuple _) h1 hF
      · unfold ownAny at hn z
        rw [List.any_cons, Bool.or_eq_false_iff] at hn
        rw [List.any_cons, List.any_nil, Bool.or_false] at z
        rw [z] at hn
        exact absurd hn.1 (by simp)
    · exact h1.less hF
theorem ra_len {K : PySem.W.Frag} {ρ : En} {F : Addr → Prop} {H : Hp} : ∀ {os : List (Option Nat)} {ds : List PyData} {vs : List V}, Ra K ρ os F H ds vs → vs.length = os.length
  | [], _, _, ⟨e1, e2⟩ => by subst e1 e2; rfl
  | o :: os, _, _, ⟨d, r, v, w, e1, e2, h1, h2⟩ => by subst e2; simp [ra_len h2]
theorem tE_call {K : PySem.W.Frag} {Gx : Gx} {W : WX} {σ : St} {H : Hp} {Q : VK} {f np : Nat} {cs : List CE} {os : List (Option Nat)} (hn : os.length = np) (h : tE K Gx W (cCall Φ f cs os) σ H Q) :
    tCallS (spF K Gx Φ np f) (WE W) (tAs K Gx W cs os) σ H Q := by
  obtain ⟨F, H₀, M, ρ, re, p⟩ := h
  refine ⟨F, H₀, M, ρ, re, Post.bind (rep2 := Ra K ρ os) p fun ds vs H1 s1 r1 p1 => ?_⟩
  have re1 := re.same s1
  refine ⟨by rw [ra_len r1, hn], ?_⟩
  cases ho : ownAny os ρ with
  | false =>
    rw [ho] at p1
    refine ⟨FF F ρ σ, ds, re1.trk, ra_rps r1 (fun _ z => z) (.inr ho), ?_⟩
    cases hr : Φ f ds with
    | ok d => rw [hr] at p1; exact p1
    | exc n es => rw [hr] at p1; exact p1
    | bad => rw [hr] at p1; exact p1
  | true =>
    rw [ho] at p1
    refine ⟨fun a => FF F ρ σ a ∧ V.ref a ∉ vs, ds, fun a ha => re1.trk a ha.1, ra_rps r1 (fun _ z => z.1) (.inl fun a ha => ha.2), ?_⟩
    cases hr : Φ f ds with
    | ok d =>
      rw [hr] at p1
      simp only [guardF, if_true] at p1
      split at p1
      · rename_i z
        exact fun v H' s q => p1 v H' s (Rp.flat d v z q)
      · exact False.elim p1
    | exc n es =>
      rw [hr] at p1
      simp only [guardF, if_true] at p1
      split at p1
      · rename_i z
        refine fun cls od H' s q => p1 cls od H' s ?_
        obtain ⟨C, h1, h2, h3⟩ := q
        refine ⟨C, h1, h2, ?_⟩
        rcases h3 with h3 | ⟨h4, dx, ws, h5, h6, h7, h8⟩
        · exact .inl h3
        · exact .inr ⟨h4, dx, ws, h5, h6, h7, Rps.flat es ws z h8⟩
      · exact False.elim p1
    | bad => rw [hr] at p1; exact p1
theorem fnIx_at {x : Str} : ∀ {l : List FnI} {k i : Nat} {f : FnI}, fnIx x l k = some (i, f) → k ≤ i ∧ l[i - k]? = some f ∧ f.name = x
  | [], _, _, _, h => by cases h
  | g :: gs, k, i, f, h => by
    unfold fnIx at h
    split at h
    · rename_i e
      cases h
      exact ⟨Nat.le_refl _, by simp, e.symm⟩
    · obtain ⟨h1, h2, h3⟩ := fnIx_at h
      refine ⟨by omega, ?_, h3⟩
      have e : i - k = (i - (k + 1)) + 1 := by omega
      rw [e]
      simpa using h2
theorem sn_call (ok : EOk Gr G Φ k L X W) (hcalm : L.calm = true) {x : Str} {i : Nat} {f : FnI} {e : Expr} {es : List Expr} {cs : List CE} {os : List (Option Nat)} {p pos : Pos} (hg : L.glob x = true) (hf : fnIx x G.fns 0 = some (i, f)) (hl : (e :: es).length = f.ps.length)
    (hs : (e :: es).all notStar = true) (hos : os.length = (e :: es).length) (ha : PA X (e :: es) (tAs X.K Gr W cs os)) : PE X (.Call (.Name x p) (e :: es) [] pos) (tE X.K Gr W (cCall Φ i cs os)) := by
  obtain ⟨_, h2, h3⟩ := fnIx_at hf
  obtain ⟨a, fd, hm, hk, hb, fo⟩ := ok.gl.fns i f (by simpa using h2)
  subst h3
  have g := glob_ok ok.nm hg
  rw [List.all_cons, Bool.and_eq_true] at hs
  exact PE.imp (pe_callS fo (ok.room hcalm) g.gl hm hk hb (fun σ => passAt ok.tk σ) ha g.d1 (star_cons hs.1) (star_plain hs.2)) fun σ H Q => tE_call (by omega)
end
end Pv


/-! walks, comprehensions, isinstance -/
namespace Pv
open PySem PySem.Spec L2
open PyProof.Rows hiding St

/-- what is not F's stays, the tuples too -/
theorem kp_of_stay {F : Addr → Prop} {H H' : Hp} (s : Stay F H H') (ht : Trk F H) : Kp F H H' := by
  intro a o h c
  refine s a o ?_ h
  intro z
  have m := ht a z
  rw [h] at m
  rcases c with c | ⟨ys, c⟩ | ⟨u, ys, c⟩
  · exact c z
  · subst c; exact m
  · subst c; exact m

/-! ### the walks -/
/-- Fs: what may change meanwhile; Fi: what the items do not hold -/
structure ItOk (K : PySem.W.Frag) (Fs Fi : Addr → Prop) (H : Hp) (J : It) (ds : List PyData) : Prop where
  go : ∀ (i : Nat) (H' : Hp), i < ds.length → Stay Fs H H' → J.go i H'
  yld : ∀ (B : Addr → Prop), (∀ a, B a → Fi a ∨ H a = none) → ∀ (i : Nat) (H' H'' : Hp) (x : V) (d : PyData), Stay Fs H H' → ds[i]? = some d → J.yld i H' x H'' → Same H' H'' ∧ Rp K B H'' d x
  stop : ∀ (H' : Hp), Stay Fs H H' → J.stop ds.length H'
def tIt (K : PySem.W.Frag) (G : Gx) (W : WX) (lent : Bool) (c : CI) : TI := fun σ H Rr => ∃ F H₀ M ρ, RE K G F H₀ M ρ σ H ∧
  match c ρ with
  | .ok ds => ∀ J H', Same H H' → ds.length ≤ sizeLine → ItOk K (if lent = true then fun _ => False else FF F ρ σ) (FF F ρ σ) H' J ds → Rr J H'
  | .exc n ds => ∀ cls od H', Same H H' → XR K G (FF F ρ σ) H' n ds cls od → W cls od σ H'
  | .bad => False
section
variable {K : PySem.W.Frag} {Fs Fi : Addr → Prop} {H : Hp}
theorem it_item {H' : Hp} {B : Addr → Prop} {d : PyData} {x : V} (hsi : ∀ a, Fs a → Fi a) (tr : Trk Fs H) (hB : ∀ a, B a → Fi a ∨ H a = none) (s : Stay Fs H H') (r : Rp K Fi H d x) : Rp K B H' d x :=
  Rp.keep (F := fun a => Fi a ∨ H a = none) (fun b o ho c => by
    refine kp_of_stay s tr b o ho ?_
    rcases c with c | c
    · exact .inl fun z => c (.inl (hsi b z))
    · exact .inr c) hB d x (Rp.grow (fun b z => z) d x r)
theorem it_list {a : Addr} {vs : List V} {ds : List PyData} (q : Rd H a (.lst vs)) (nf : ¬ Fs a) (r : Rps K Fi H ds vs) (hsi : ∀ a, Fs a → Fi a) (tr : Trk Fs H) : ItOk K Fs Fi H (Itl K a) ds where
  go := fun i H' hi s => by
    have hl := r.length
    exact ⟨vs, vs[i]'(by omega), .inl (Rd.stay q fun o => s a o nf), by simp [show i < vs.length by omega]⟩
  yld := fun B hB i H' H'' x d s hd y => by
    obtain ⟨e, y⟩ := y
    subst e
    have e := y vs (.inl (Rd.stay q fun o => s a o nf))
    obtain ⟨v, e2, rv⟩ := r.get hd
    rw [e] at e2
    cases e2
    exact ⟨Same.refl _, it_item hsi tr hB s rv⟩
  stop := fun H' s => ⟨vs, .inl (Rd.stay q fun o => s a o nf), by rw [r.length]; exact Nat.le_refl _⟩
theorem it_tuple {a : Addr} {vs : List V} {ds : List PyData} (q : SqT K H a vs) (r : Rps K Fi H ds vs) (hsi : ∀ a, Fs a → Fi a) (tr : Trk Fs H) : ItOk K Fs Fi H (Itt K a) ds := by
  have st : ∀ H', Stay Fs H H' → SqT K H' a vs := fun H' s => SqT.kp (kp_of_stay s tr) q
  exact {
    go := fun i H' hi s => by
      have hl := r.length
      exact ⟨vs, vs[i]'(by omega), st H' s, by simp [show i < vs.length by omega]⟩
    yld := fun B hB i H' H'' x d s hd y => by
      obtain ⟨e, y⟩ := y
      subst e
      have e := y vs (st _ s)
      obtain ⟨v, e2, rv⟩ := r.get hd
      rw [e] at e2
      cases e2
      exact ⟨Same.refl _, it_item hsi tr hB s rv⟩
    stop := fun H' s => ⟨vs, st H' s, by rw [r.length]; exact Nat.le_refl _⟩ }
theorem it_str (z : Str) : ItOk K Fs Fi H (Its z) (z.cps.toList.map fun c => .str ⟨#[c]⟩) where
  go := fun i H' hi s => by
    show i < z.cps.size
    simpa using hi
  yld := fun B hB i H' H'' x d s hd y => by
    obtain ⟨e, c, hc, e2⟩ := y
    subst e e2
    refine ⟨Same.refl _, ?_⟩
    rw [List.getElem?_map] at hd
    have : z.cps.toList[i]? = some c := by simpa using hc
    rw [this] at hd
    cases hd
    rfl
  stop := fun H' s => by
    show z.cps.size ≤ _
    simp
theorem it_range (a b : Int) : ItOk K Fs Fi H (Itr a (b - a).toNat) (rangeL a b) where
  go := fun i H' hi s => by
    show i < (b - a).toNat
    simpa [rangeL] using hi
  yld := fun B hB i H' H'' x d s hd y => by
    obtain ⟨e, e2⟩ := y
    subst e e2
    refine ⟨Same.refl _, ?_⟩
    unfold rangeL at hd
    rw [List.getElem?_map] at hd
    cases hr : (List.range (b - a).toNat)[i]? with
    | none => rw [hr] at hd; cases hd
    | some j =>
      rw [hr] at hd
      cases hd
      obtain ⟨h1, h2⟩ := List.getElem?_eq_some_iff.mp hr
      rw [List.getElem_range] at h2
      subst h2
      rfl
  stop := fun H' s => by
    show (b - a).toNat ≤ _
    simp [rangeL]
end
section
variable {Gr : Gx} {G : GI} {Φ : Ph} {k : Nat} {L : Lc} {X : Cx} {W : WX} {tg : Expr}
/-- a value that is walked: at its iterator -/
theorem pi_any {F Fs : Addr → Prop} {pins : List (Addr × Obj)} {σ : St} {H : Hp} {s : Shared} {E : Value → Shared → Prop} {Rr : It → Hp → Prop} {d : PyData} {ds : List PyData} {x : V} {v : Value} (I : L2.Inv X pins σ H s) (rx : RelV x v) (hb : Rb X.K F H d x) (hi : itD d = .ok ds)
    (hsi : ∀ a, Fs a → F a) (tr : Trk Fs H) (hl : ∀ a, x = .ref a → (∃ es, d = .list es) → ¬ Fs a) (q : ∀ J, ds.length ≤ sizeLine → ItOk X.K Fs F H J ds → Rr J H) : wpAny (model X.prog X.w) X.A (pyIter v) (PIE X pins σ tg Rr) E s := by
  cases d with
  | list es =>
    cases hi
    obtain ⟨a, vs, rfl, q1, r1⟩ := hb
    cases rx
    obtain ⟨its, rv, p, hz⟩ := I.list (.inl q1)
    exact wpAny_pyIter_list p.isList (pi_one (tk := s.toks) I _ (turn_list a _) ⟨_, Heap.get?_push_size _ rfl, rfl, rfl⟩ (q _ (by rw [r1.length]; exact hz) (it_list q1 (hl a rfl ⟨_, rfl⟩) r1 hsi tr)))
  | tuple es =>
    cases hi
    obtain ⟨a, vs, rfl, q1, r1⟩ := hb
    cases rx
    obtain ⟨its, rv, p, hz⟩ := I.tuple q1
    exact wpAny_pyIter_tuple (show s.heap.IsTuple a its.toArray from p) (pi_one (tk := s.toks) I _ (turn_tuple a _) ⟨_, Heap.get?_push_size _ rfl, rfl, rfl⟩ (q _ (by rw [r1.length]; exact hz) (it_tuple q1 r1 hsi tr)))
  | str z =>
    simp only [itD] at hi
    split at hi
    · rename_i hz
      cases hi
      cases rd_strs hb
      obtain ⟨t, rfl⟩ := rx
      have hq := q _ (by
        have := sizeLine_eq
        have : z.length = z.cps.size := rfl
        simp only [List.length_map, Array.length_toList]
        omega) (it_str z)
      cases ha : z.cps.all (· < 128)
      · exact wpAny_pyIter_wide ha (pi_one (tk := s.toks) I _ (turn_str _ z t "str_iterator" (.inr rfl)) ⟨_, Heap.get?_push_size _ rfl, rfl, rfl⟩ hq)
      · exact wpAny_pyIter_ascii ha (pi_one (tk := s.toks) I _ (turn_str _ z t "str_ascii_iterator" (.inl rfl)) ⟨_, Heap.get?_push_size _ rfl, rfl, rfl⟩ hq)
    · cases hi
  | none => cases hi
  | bool _ => cases hi
  | int _ => cases hi
  | dict _ => cases hi
theorem tIt_E {c : CE} {σ : St} {H : Hp} {Rr : It → Hp → Prop} (h : tIt X.K Gr W false (cItE c) σ H Rr) :
    tE X.K Gr W c σ H fun x H1 => ∃ F Fs d ds, Rb X.K F H1 d x ∧ itD d = .ok ds ∧ (∀ a, Fs a → F a) ∧ Trk Fs H1 ∧ (∀ a, x = .ref a → (∃ es, d = .list es) → ¬ Fs a) ∧ ∀ J, ds.length ≤ sizeLine → ItOk X.K Fs F H1 J ds → Rr J H1 := by
  obtain ⟨F, H₀, M, ρ, re, p⟩ := h
  refine ⟨F, H₀, M, ρ, re, ?_⟩
  unfold cItE at p
  cases hc : c ρ with
  | ok d =>
    rw [hc] at p
    intro x H1 s1 r1
    cases hi : itD d with
    | ok ds =>
      rw [R.bind_ok, hi] at p
      refine ⟨_, FF F ρ σ, d, ds, r1.rb, hi, fun _ z => z, (re.same s1).trk, fun a e ⟨es, z⟩ => ?_, fun J hl io => p J H1 s1 hl io⟩
      subst z
      obtain ⟨b, vs, e2, nf, _⟩ := r1
      rw [e] at e2; cases e2
      exact nf
    | exc n es => rw [R.bind_ok, hi] at p; exact False.elim p
    | bad => rw [R.bind_ok, hi] at p; exact False.elim p
  | exc n es => rw [hc] at p; exact p
  | bad => rw [hc] at p; exact p
theorem tIt_B {c : CE} {σ : St} {H : Hp} {Rr : It → Hp → Prop} (h : tIt X.K Gr W true (cItE c) σ H Rr) :
    tB X.K Gr W c σ H fun x H1 => ∃ F Fs d ds, Rb X.K F H1 d x ∧ itD d = .ok ds ∧ (∀ a, Fs a → F a) ∧ Trk Fs H1 ∧ (∀ a, x = .ref a → (∃ es, d = .list es) → ¬ Fs a) ∧ ∀ J, ds.length ≤ sizeLine → ItOk X.K Fs F H1 J ds → Rr J H1 := by
  obtain ⟨F, H₀, M, ρ, re, p⟩ := h
  refine ⟨F, H₀, M, ρ, re, ?_⟩
  unfold cItE at p
  cases hc : c ρ with
  | ok d =>
    rw [hc] at p
    intro x H1 s1 r1
    cases hi : itD d with
    | ok ds =>
      rw [R.bind_ok, hi] at p
      exact ⟨_, fun _ => False, d, ds, r1, hi, fun _ z => False.elim z, fun _ z => False.elim z, fun a e _ z => z, fun J hl io => p J H1 s1 hl io⟩
    | exc n es => rw [R.bind_ok, hi] at p; exact False.elim p
    | bad => rw [R.bind_ok, hi] at p; exact False.elim p
  | exc n es => rw [hc] at p; exact p
  | bad => rw [hc] at p; exact p
theorem sn_itE {e : Expr} {c : CE} (he : PE X e (tE X.K Gr W c)) : PI X tg e (tIt X.K Gr W false (cItE c)) := by
  refine ⟨fun pins s σ H Rr I h => ?_⟩
  refine thn (he.run pins s σ H _ I (tIt_E h)) fun v s1 ⟨x, H1, I1, r1, F, Fs, d, ds, h1, h2, h3, h4, h5, h6⟩ => ?_
  exact pi_any I1 r1 h1 h2 h3 h4 h5 h6
theorem sn_itB {e : Expr} {c : CE} (he : PE X e (tB X.K Gr W c)) : PI X tg e (tIt X.K Gr W true (cItE c)) := by
  refine ⟨fun pins s σ H Rr I h => ?_⟩
  refine thn (he.run pins s σ H _ I (tIt_B h)) fun v s1 ⟨x, H1, I1, r1, F, Fs, d, ds, h1, h2, h3, h4, h5, h6⟩ => ?_
  exact pi_any I1 r1 h1 h2 h3 h4 h5 h6
theorem intB_ok {d : PyData} {i : Int} (h : intB d = .ok i) : d = .int i ∧ -(2 ^ 62) ≤ i ∧ i < 2 ^ 62 := by
  cases d with
  | int j =>
    simp only [intB] at h
    split at h
    · rename_i z; cases h; exact ⟨rfl, by omega, by omega⟩
    · cases h
  | _ => cases h
theorem rangeL_len (a b : Int) : (rangeL a b).length = (b - a).toNat := by simp [rangeL]
theorem sn_range1 (ok : EOk Gr G Φ k L X W) {a : Expr} {c : CE} {p pos : Pos} {lent : Bool} (hg : L.glob "range" = true) (hs : notStar a = true) (ha : PE X a (tB X.K Gr W c)) : PI X tg (.Call (.Name "range" p) [a] [] pos) (tIt X.K Gr W lent (cRange1 c)) := by
  have g := glob_ok ok.nm hg
  refine ⟨fun pins s σ H Rr I h => ?_⟩
  refine (pi_range1 (tg := tg) g.gl (ok.gl.bi _ (by decide)) (pa_cons ha pa_nil (star_cons hs)) (by rw [star_cons hs]; rfl)).run pins s σ H Rr I ?_
  obtain ⟨F, H₀, M, ρ, re, q⟩ := h
  refine ⟨F, H₀, M, ρ, re, ?_⟩
  unfold cRange1 at q
  cases hc : c ρ with
  | ok d =>
    rw [hc] at q
    intro x H1 s1 r1
    cases hi : intB d with
    | ok i =>
      rw [R.bind_ok, hi] at q
      obtain ⟨rfl, h1, h2⟩ := intB_ok hi
      cases rd_ints r1
      simp only [quiet, R.bind_ok] at q
      split at q
      · rename_i o dd hz
        split at hz
        · rename_i hz2
          cases hz
          refine ⟨i, rfl, h1, h2, ?_⟩
          have e : (i - 0).toNat = i.toNat := by rw [Int.sub_zero]
          rw [← e]
          refine q _ H1 s1 ?_ (it_range 0 i)
          have := sizeLine_eq
          rw [rangeL_len]; omega
        · cases hz
      · rename_i hz; split at hz <;> cases hz
      · exact False.elim q
    | exc n es => rw [R.bind_ok, hi] at q; exact False.elim q
    | bad => rw [R.bind_ok, hi] at q; exact False.elim q
  | exc n es => rw [hc] at q; exact q
  | bad => rw [hc] at q; exact q
end
end Pv


namespace Pv
open PySem PySem.Spec L2
open PyProof.Rows hiding St
section
variable {Gr : Gx} {G : GI} {Φ : Ph} {k : Nat} {L : Lc} {X : Cx} {W : WX} {tg : Expr}
theorem sn_range2 (ok : EOk Gr G Φ k L X W) {a b : Expr} {c c' : CE} {p pos : Pos} {lent : Bool} (hg : L.glob "range" = true) (hs : notStar a = true) (hs' : notStar b = true) (ha : PE X a (tB X.K Gr W c)) (hb : PE X b (tB X.K Gr W c')) :
    PI X tg (.Call (.Name "range" p) [a, b] [] pos) (tIt X.K Gr W lent (cRange2 c c')) := by
  have g := glob_ok ok.nm hg
  refine ⟨fun pins s σ H Rr I h => ?_⟩
  refine (pi_range2 (tg := tg) g.gl (ok.gl.bi _ (by decide)) (pa_cons ha (pa_cons hb pa_nil (star_cons hs')) (star_cons hs)) (by rw [star_cons hs, star_cons hs']; rfl) (by rw [star_cons hs']; rfl)).run pins s σ H Rr I ?_
  obtain ⟨F, H₀, M, ρ, re, q⟩ := h
  refine ⟨F, H₀, M, ρ, re, ?_⟩
  unfold cRange2 at q
  cases hc : c ρ with
  | ok d =>
    rw [hc] at q
    intro x H1 s1 r1
    refine ⟨F, H₀, M, ρ, re.same s1, ?_⟩
    rw [R.bind_ok] at q
    cases hc' : c' ρ with
    | ok e =>
      rw [hc'] at q
      intro y H2 s2 r2
      rw [R.bind_ok] at q
      cases hi : intB d with
      | ok i =>
        cases hj : intB e with
        | ok j =>
          rw [hi, hj] at q
          obtain ⟨rfl, h1, h2⟩ := intB_ok hi
          obtain ⟨rfl, h3, h4⟩ := intB_ok hj
          cases rd_ints r1
          cases rd_ints r2
          simp only [quiet, R.bind_ok] at q
          split at q
          · rename_i o dd hz
            split at hz
            · cases hz
              refine ⟨i, j, rfl, ⟨h1, h2, h3, h4⟩, ?_⟩
              refine q _ H2 (s1.trans s2) ?_ (it_range i j)
              have := sizeLine_eq
              rw [rangeL_len]; omega
            · cases hz
          · rename_i hz; split at hz <;> cases hz
          · exact False.elim q
        | exc n es => rw [hi, hj] at q; exact False.elim q
        | bad => rw [hi, hj] at q; exact False.elim q
      | exc n es => rw [hi] at q; exact False.elim q
      | bad => rw [hi] at q; exact False.elim q
    | exc n es => rw [hc'] at q; exact fun cls od H' s => q cls od H' (s1.trans s)
    | bad => rw [hc'] at q; exact q
  | exc n es => rw [hc] at q; exact q
  | bad => rw [hc] at q; exact q

/-! ### isinstance -/
def isTyN (t : String) : Bool := t == "int" || t == "bool" || t == "str" || t == "list" || t == "tuple" || t == "dict"
theorem kit_name {s t : String} (hs : s = "NoneType" ∨ s = "bool" ∨ s = "int" ∨ s = "str" ∨ s = "list" ∨ s = "tuple" ∨ s = "dict") (ht : isTyN t = true) : kitB s t = some ((s == t) || (t == "int" && s == "bool")) := by
  unfold isTyN at ht
  simp only [Bool.or_eq_true, beq_iff_eq] at ht
  rcases hs with rfl | rfl | rfl | rfl | rfl | rfl | rfl <;> (rcases ht with ((((rfl | rfl) | rfl) | rfl) | rfl) | rfl) <;> decide +kernel
theorem tyD_in (d : PyData) : tyD d = "NoneType" ∨ tyD d = "bool" ∨ tyD d = "int" ∨ tyD d = "str" ∨ tyD d = "list" ∨ tyD d = "tuple" ∨ tyD d = "dict" := by
  cases d <;> simp [tyD]
theorem kit_data {K : PySem.W.Frag} (d : PyData) {t : String} (ht : isTyN t = true) : PySem.W.kitOne K (.type (tyD d)) (.type t) = some ((tyD d == t) || (t == "int" && tyD d == "bool")) :=
  kit_ty (kit_name (tyD_in d) ht)
theorem kitAny_data {K : PySem.W.Frag} (d : PyData) : ∀ {ts : List String}, ts.all isTyN = true → PySem.W.kitAny K (.type (tyD d)) (ts.map Value.type) = some (ts.any fun t => (tyD d == t) || (t == "int" && tyD d == "bool"))
  | [], _ => rfl
  | t :: ts, h => by
    rw [List.all_cons, Bool.and_eq_true] at h
    have e := kit_data (K := K) d h.1
    have r := kitAny_data (K := K) d h.2
    rw [List.map_cons, List.any_cons]
    unfold PySem.W.kitAny
    rw [e]
    cases (tyD d == t) || (t == "int" && tyD d == "bool") with
    | true => rfl
    | false => exact r
theorem ty_data {K : PySem.W.Frag} {F : Addr → Prop} {H : Hp} {d : PyData} {x : V} (h : Rb K F H d x) : TyX K H x (.type (tyD d)) := by
  cases d with
  | none => cases (show x = .non from h); exact .base .non
  | bool b => cases (show x = .bl b from h); exact .base (.bl b)
  | int b => cases (show x = .int b from h); exact .base (.int b)
  | str b => cases (show x = .str b from h); exact .base (.str b)
  | list ds =>
    obtain ⟨a, vs, rfl, q, _⟩ := h
    rcases q with q | ⟨o, q⟩
    · exact .base (.lst q)
    · exact .base (.frz q)
  | tuple ds =>
    obtain ⟨a, vs, rfl, q, _⟩ := h
    rcases q with (q | ⟨o, q⟩) | ⟨o, its, n, q, c, _⟩
    · exact .base (.tup q)
    · exact .fTuple q
    · exact .kTuple q c
  | dict kvs =>
    obtain ⟨a, vs, o, rfl, q, c, _⟩ := h
    rcases c with ⟨κ, _, rfl⟩ | ⟨_, κ, _, rfl⟩
    · exact .base (.dK q)
    · exact .base (.dT q)
theorem isi1 {t : String} (ht : isTyN t = true) : CallR X (.builtin "isinstance") (fun xs H Q => ∃ x, xs = [x, .ty t] ∧ rD1 X.K (isiD [t]) x H Q) := by
  intro pins s σ H xs us Q I rs h
  obtain ⟨x, rfl, F, d, r, tr, hd, hg, q⟩ := h
  cases hg
  refine call_isi pins s σ H _ us Q I rs ⟨x, .ty t, _, .type t, _, rfl, .ty t, ty_data hd, kit_data d ht, ?_⟩
  have e : ([t].any fun t => (tyD d == t) || (t == "int" && tyD d == "bool")) = ((tyD d == t) || (t == "int" && tyD d == "bool")) := by simp
  rw [e] at q
  exact q _ _ (Same.refl H) rfl
theorem clsv_all : ∀ ts : List String, Paired ClsV (ts.map V.ty) (ts.map Value.type)
  | [] => .nil
  | t :: ts => .cons (.ty t) (clsv_all ts)
theorem isiN {ts : List String} (ht : ts.all isTyN = true) : CallR X (.builtin "isinstance") (fun xs H Q => ∃ x p, xs = [x, .ref p] ∧ H p = some (.tup (ts.map V.ty)) ∧ rD1 X.K (isiD ts) x H Q) := by
  intro pins s σ H xs us Q I rs h
  obtain ⟨x, p, rfl, hp, F, d, r, tr, hd, hg, q⟩ := h
  cases hg
  exact call_isiT pins s σ H _ us Q I rs ⟨x, p, _, _, _, _, rfl, hp, clsv_all ts, ty_data hd, kitAny_data d ht, q _ _ (Same.refl H) rfl⟩
theorem tyName_ok {x : Str} {t : String} (h : tyName x = some t) : isTyN t = true ∧ x ∈ biNames ∧ bootBuiltins x = some (.type t) := by
  unfold tyName at h
  split at h
  · rename_i e; subst e; cases h; exact ⟨rfl, by decide, boot_int⟩
  split at h
  · rename_i e; subst e; cases h; exact ⟨rfl, by decide, by decide +kernel⟩
  split at h
  · rename_i e; subst e; cases h; exact ⟨rfl, by decide, by decide +kernel⟩
  split at h
  · rename_i e; subst e; cases h; exact ⟨rfl, by decide, by decide +kernel⟩
  split at h
  · rename_i e; subst e; cases h; exact ⟨rfl, by decide, by decide +kernel⟩
  split at h
  · rename_i e; subst e; cases h; exact ⟨rfl, by decide, by decide +kernel⟩
  · cases h
def tTys (ts : List String) : TA := fun _ H Q => Q (ts.map V.ty) H
theorem tysOf_ok (ok : EOk Gr G Φ k L X W) {e : Expr} {ts : List String} (h : tysOf L e = some ts) : ∃ t, ts = [t] ∧ isTyN t = true ∧ notStar e = true ∧ PE X e (tC (.ty t)) := by
  unfold tysOf at h
  split at h
  · split at h
    · rename_i x p hg
      cases hn : tyName x with
      | none => rw [hn] at h; cases h
      | some t =>
        rw [hn] at h
        cases h
        obtain ⟨h1, h2, h3⟩ := tyName_ok hn
        have g := glob_ok ok.nm hg
        exact ⟨t, rfl, h1, rfl, pe_bltn g.gl (ok.gl.bi _ h2) h3 rfl g.nn g.d1⟩
    · cases h
  · cases h
theorem tys_pa (ok : EOk Gr G Φ k L X W) : ∀ {es : List Expr} {ls : List (List String)}, es.mapM (tysOf L) = some ls → ls.flatten.all isTyN = true ∧ PA X es (tTys ls.flatten)
  | [], ls, h => by
    cases h
    exact ⟨rfl, PA.imp pa_nil fun σ H Q q => q⟩
  | e :: es, ls, h => by
    rw [List.mapM_cons] at h
    cases h1 : tysOf L e with
    | none => rw [h1] at h; cases h
    | some ts =>
      rw [h1] at h
      cases h2 : es.mapM (tysOf L) with
      | none => rw [h2] at h; cases h
      | some ls' =>
        rw [h2] at h
        cases h
        obtain ⟨t, rfl, a1, a2, a3⟩ := tysOf_ok ok h1
        obtain ⟨b1, b2⟩ := tys_pa ok h2
        refine ⟨?_, PA.imp (pa_cons a3 b2 (star_cons a2)) fun σ H Q q => q⟩
        rw [List.flatten_cons, List.all_append, b1, Bool.and_true]
        simp [a1]
theorem sn_isi1 (ok : EOk Gr G Φ k L X W) {a b : Expr} {c : CE} {ts : List String} {p pos : Pos} (hg : L.glob "isinstance" = true) (hs : notStar a = true) (ha : PE X a (tB X.K Gr W c)) (hb : tysOf L b = some ts) : PE X (.Call (.Name "isinstance" p) [a, b] [] pos) (tE X.K Gr W (c1 (isiD ts) c)) := by
  obtain ⟨t, rfl, a1, a2, a3⟩ := tysOf_ok ok hb
  have g := glob_ok ok.nm hg
  refine PE.imp (pe_callB (isi1 a1) g.gl (ok.gl.bi _ (by decide)) (by decide +kernel) (pa_cons ha (pa_cons a3 pa_nil (star_cons a2)) (star_cons hs)) g.nn g.d1 (star_cons hs) (by rw [star_cons a2]; rfl)) fun σ H Q h => ?_
  obtain ⟨F, H₀, M, ρ, re, q⟩ := tF_c1 (tE_F h)
  exact ⟨F, H₀, M, ρ, re, q.weak (fun _ _ _ _ z => z) |> fun z => by
    cases hc : c ρ with
    | ok d => rw [hc] at z; exact fun v H' s r => ⟨v, rfl, z v H' s r⟩
    | exc n es => rw [hc] at z; exact z
    | bad => rw [hc] at z; exact z⟩
theorem sn_isiN (ok : EOk Gr G Φ k L X W) {a : Expr} {es : List Expr} {c : CE} {ls : List (List String)} {p pos tpos : Pos} {kk : Nat} (hg : L.glob "isinstance" = true) (hs : notStar a = true) (ha : PE X a (tB X.K Gr W c)) (hb : es.mapM (tysOf L) = some ls) (hz : es.length ≤ 100) :
    PE X (.Call (.Name "isinstance" p) [a, .Tuple es kk tpos] [] pos) (tE X.K Gr W (c1 (isiD ls.flatten) c)) := by
  obtain ⟨b1, b2⟩ := tys_pa ok hb
  have g := glob_ok ok.nm hg
  refine PE.imp (pe_callB (isiN b1) g.gl (ok.gl.bi _ (by decide)) (by decide +kernel) (pa_cons ha (pa_cons (pe_tup b2) pa_nil) (star_cons hs)) g.nn g.d1 (star_cons hs) rfl) fun σ H Q h => ?_
  obtain ⟨F, H₀, M, ρ, re, q⟩ := h
  refine ⟨F, H₀, M, ρ, re, q.bind fun d v H1 s1 r1 p1 => ⟨?_, fun pp np => ⟨v, pp, rfl, upd_same, ?_⟩⟩⟩
  · rw [List.length_map]
    have : ls.flatten.length ≤ es.length := by
      have : ∀ {es : List Expr} {ls : List (List String)}, es.mapM (tysOf L) = some ls → ls.flatten.length ≤ es.length := by
        intro es
        induction es with
        | nil => intro ls h; cases h; simp
        | cons e es ih =>
          intro ls h
          rw [List.mapM_cons] at h
          cases h1 : tysOf L e with
          | none => rw [h1] at h; cases h
          | some ts =>
            rw [h1] at h
            cases h2 : es.mapM (tysOf L) with
            | none => rw [h2] at h; cases h
            | some ls' =>
              rw [h2] at h
              cases h
              obtain ⟨t, rfl, _⟩ := tysOf_ok ok h1
              have := ih h2
              simp only [List.flatten_cons, List.length_append, List.length_cons, List.length_nil]
              omega
      exact this hb
    have := sizeLine_eq
    omega
  · have r2 := Rb.same r1 (same_upd (o := .tup (ls.flatten.map V.ty)) np)
    exact ⟨_, d, _, (re.same (s1.trans (same_upd np))).trk, r2, rfl, fun w H' s' n => p1 w H' ((same_upd np).trans s') (n.rp (re.same (s1.trans (same_upd np))).trk)⟩
end
end Pv


/-! stores, comprehensions -/
namespace Pv
open PySem PySem.Spec L2
open PyProof.Rows hiding St

/-! ### a slot is set -/
section
variable {K : PySem.W.Frag} {Gr : Gx} {F M : Addr → Prop} {H₀ H : Hp} {ρ : En} {σ : St}
theorem own_set {i : Nat} {s : Sl} {u : Option V} {a : Addr} (hs : ∀ d, s ≠ .dat d true) (h : Own (ρ.set i s) (σ.set i u) a) : Own ρ σ a := by
  obtain ⟨j, d, e1, e2⟩ := h
  rw [List.getElem?_set] at e1 e2
  by_cases hij : i = j
  · rw [if_pos hij] at e1
    split at e1
    · injection e1 with e1; exact absurd e1 (hs d)
    · cases e1
  · rw [if_neg hij] at e1 e2
    exact ⟨j, d, e1, e2⟩
theorem own_keep {i : Nat} {s : Sl} {u : Option V} {a : Addr} (hi : ownAt ρ i = false) (h : Own ρ σ a) : Own (ρ.set i s) (σ.set i u) a := by
  obtain ⟨j, d, e1, e2⟩ := h
  have hij : i ≠ j := by
    intro z
    subst z
    unfold ownAt at hi
    rw [e1] at hi
    cases hi
  exact ⟨j, d, by rw [List.getElem?_set, if_neg hij]; exact e1, by rw [List.getElem?_set, if_neg hij]; exact e2⟩
def SlP (K : PySem.W.Frag) (F : Addr → Prop) (H : Hp) : Sl → Option V → Prop
  | .dat d false, u => ∃ v, u = some v ∧ Rp K F H d v
  | .dat _ true, _ => False
  | .exn _ _, _ => False
  | .no, _ => True
theorem SlP.nn {s : Sl} {u : Option V} (q : SlP K F H s u) : ∀ d, s ≠ .dat d true := fun d z => by subst z; exact q
theorem RE.put (r : RE K Gr F H₀ M ρ σ H) {i : Nat} {s : Sl} {u : Option V} (q : SlP K (FF F ρ σ) H s u) : RE K Gr F H₀ M (ρ.set i s) (σ.set i u) H := by
  have hl : ∀ a, FF F (ρ.set i s) (σ.set i u) a → FF F ρ σ a := fun a z => z.imp id (own_set q.nn)
  have bk : ∀ (j : Nat) (d : PyData), (ρ.set i s)[j]? = some (.dat d true) → i ≠ j ∧ ρ[j]? = some (.dat d true) := fun j d e => by
    rw [List.getElem?_set] at e
    by_cases hij : i = j
    · rw [if_pos hij] at e
      split at e
      · injection e with e; exact absurd e (q.nn d)
      · cases e
    · rw [if_neg hij] at e
      exact ⟨hij, e⟩
  refine ⟨by simp [r.len], fun j d e => ?_, fun j d e => ?_, fun j l d e a e1 e2 e3 e4 => ?_, r.frm, fun a z => r.own a (own_set q.nn z), r.fn, fun j n ds e => ?_⟩
  · rw [List.getElem?_set] at e
    by_cases hij : i = j
    · rw [if_pos hij] at e
      split at e
      · rename_i hlt
        injection e with e
        subst e
        obtain ⟨v, rfl, rv⟩ := q
        refine ⟨v, ?_, rv.less hl⟩
        rw [List.getElem?_set, if_pos hij, if_pos (by rw [← r.len]; exact hlt)]
      · cases e
    · rw [if_neg hij] at e
      obtain ⟨v, e1, rv⟩ := r.pl j d e
      exact ⟨v, by rw [List.getElem?_set, if_neg hij]; exact e1, rv.less hl⟩
  · obtain ⟨hij, e⟩ := bk j d e
    obtain ⟨a, e1, rr⟩ := r.ow j d e
    exact ⟨a, by rw [List.getElem?_set, if_neg hij]; exact e1, rr.less hl⟩
  · obtain ⟨h1, e1⟩ := bk j d e1
    obtain ⟨h2, e2⟩ := bk l e e2
    rw [List.getElem?_set, if_neg h1] at e3
    rw [List.getElem?_set, if_neg h2] at e4
    exact r.un j l d e a e1 e2 e3 e4
  · rw [List.getElem?_set] at e
    by_cases hij : i = j
    · rw [if_pos hij] at e
      split at e
      · injection e with e
        subst e
        exact False.elim q
      · cases e
    · rw [if_neg hij] at e
      obtain ⟨a, C, od, e1, e2, x⟩ := r.ex j n ds e
      exact ⟨a, C, od, e1, by rw [List.getElem?_set, if_neg hij]; exact e2, x.less hl⟩
/-! what a target's stores change -/
structure Chg (is : List Nat) (ρ : En) (σ : St) (ρ' : En) (σ' : St) : Prop where
  wip : ∀ vs : List Nat, (∀ i ∈ is, i ∈ vs) → wipe σ' vs = wipe σ vs
  owl : ∀ a, Own ρ' σ' a → Own ρ σ a
  owk : (∀ i ∈ is, ownAt ρ i = false) → ∀ a, Own ρ σ a → Own ρ' σ' a
theorem Chg.refl : Chg is ρ σ ρ σ := ⟨fun _ _ => rfl, fun _ z => z, fun _ _ z => z⟩
theorem wipe_in {σ : St} {i : Nat} : ∀ {vs : List Nat}, i ∈ vs → i < σ.length → (wipe σ vs)[i]? = some none
  | v :: vs, h, hi => by
    unfold wipe
    rw [List.getElem?_set]
    by_cases hv : v = i
    · rw [if_pos hv, if_pos (by rw [wipe_length]; omega)]
    · rw [if_neg hv]
      rcases List.mem_cons.mp h with h | h
      · exact absurd h.symm hv
      · exact wipe_in h hi
theorem wipe_ext {σ σ' : St} {vs : List Nat} (hl : σ'.length = σ.length) (h : ∀ i, i ∉ vs → σ'[i]? = σ[i]?) : wipe σ' vs = wipe σ vs := by
  apply List.ext_getElem?
  intro i
  by_cases hv : i ∈ vs
  · by_cases hi : i < σ.length
    · rw [wipe_in hv hi, wipe_in hv (by omega)]
    · rw [List.getElem?_eq_none (by rw [wipe_length]; omega), List.getElem?_eq_none (by rw [wipe_length]; omega)]
  · rw [wipe_out hv, wipe_out hv, h i hv]
theorem ownAt_set {i j : Nat} {s : Sl} (hs : ∀ d, s ≠ .dat d true) (h : ownAt ρ j = false) : ownAt (ρ.set i s) j = false := by
  unfold ownAt at h ⊢
  rw [List.getElem?_set]
  split
  · rename_i e
    split at e
    · split at e
      · injection e with e; exact absurd e (hs _)
      · cases e
    · rw [e] at h; exact h
  · rfl
theorem Chg.one {i : Nat} {s : Sl} {u : Option V} (hs : ∀ d, s ≠ .dat d true) : Chg [i] ρ σ (ρ.set i s) (σ.set i u) where
  wip := fun vs hv => wipe_ext (by simp) fun j hj => by
    rw [List.getElem?_set, if_neg]
    intro z; subst z; exact hj (hv i (by simp))
  owl := fun a => own_set hs
  owk := fun h a => own_keep (h i (by simp))
theorem Chg.cons {i : Nat} {is : List Nat} {s : Sl} {u : Option V} {ρ' : En} {σ' : St} (hs : ∀ d, s ≠ .dat d true) (c : Chg is (ρ.set i s) (σ.set i u) ρ' σ') : Chg (i :: is) ρ σ ρ' σ' where
  wip := fun vs hv => (c.wip vs fun j hj => hv j (List.mem_cons_of_mem _ hj)).trans ((Chg.one (ρ := ρ) hs).wip vs fun j hj => hv j (by simp at hj; simp [hj]))
  owl := fun a z => own_set hs (c.owl a z)
  owk := fun h a z => c.owk (fun j hj => ownAt_set hs (h j (List.mem_cons_of_mem _ hj))) a (own_keep (h i (by simp)) z)
/-! ### targets -/
def gNames : List Nat → TGs
  | [] => gNil
  | i :: is => gCons (gName i) (gNames is)
def tTg (K : PySem.W.Frag) : Tg → TG
  | .one i => gName i
  | .tup is => gTup K is.length (gNames is)
theorem names_run : ∀ {is : List Nat} {ds : List PyData} {vs : List V} {ρ ρ' : En} {σ : St} {Q : St → Hp → Prop}, RE K Gr F H₀ M ρ σ H → Rps K (FF F ρ σ) H ds vs → setAll is ds ρ = some ρ' →
    (∀ σ', RE K Gr F H₀ M ρ' σ' H → Chg is ρ σ ρ' σ' → Q σ' H) → gNames is vs σ H Q
  | [], [], vs, ρ, ρ', σ, Q, re, r, h, hQ => by
    cases h
    have r : vs = [] := r
    exact ⟨r, hQ σ re Chg.refl⟩
  | [], d :: ds, vs, ρ, ρ', σ, Q, re, r, h, hQ => by cases h
  | i :: is, [], vs, ρ, ρ', σ, Q, re, r, h, hQ => by cases h
  | i :: is, d :: ds, vs, ρ, ρ', σ, Q, re, r, h, hQ => by
    obtain ⟨v, w, rfl, rv, rw'⟩ := r
    refine ⟨v, w, rfl, ?_⟩
    have q : SlP K (FF F ρ σ) H (.dat d false) (some v) := ⟨v, rfl, rv⟩
    refine names_run (re.put (i := i) q) (rw'.less fun a z => z.imp id (own_set q.nn)) h fun σ' re' c => hQ σ' re' (Chg.cons q.nn c)
theorem tg_run {g : Tg} {d : PyData} {x : V} {ρ' : En} {Q : St → Hp → Prop} (re : RE K Gr F H₀ M ρ σ H) (r : Rp K (FF F ρ σ) H d x) (h : tgSet g d ρ = .ok ρ') (hQ : ∀ σ', RE K Gr F H₀ M ρ' σ' H → Chg g.ixs ρ σ ρ' σ' → Q σ' H) : tTg K g x σ H Q := by
  cases g with
  | one i =>
    cases h
    have q : SlP K (FF F ρ σ) H (.dat d false) (some x) := ⟨x, rfl, r⟩
    exact hQ _ (re.put q) (Chg.one q.nn)
  | tup is =>
    cases d with
    | tuple ds =>
      simp only [tgSet] at h
      split at h
      · rename_i e
        cases h
        obtain ⟨a, vs, rfl, q, rs⟩ := r
        refine ⟨a, vs, rfl, q, ?_, names_run re rs e hQ⟩
        rw [← rs.length]
        clear rs q hQ re
        revert e
        have : ∀ {is : List Nat} {ds : List PyData} {ρ ρ' : En}, setAll is ds ρ = some ρ' → ds.length = is.length := by
          intro is
          induction is with
          | nil => intro ds ρ ρ' h; cases ds with
            | nil => rfl
            | cons => cases h
          | cons i is ih => intro ds ρ ρ' h; cases ds with
            | nil => cases h
            | cons d ds => simp [ih h]
        exact this
      · cases h
    | _ => cases h
end
section
variable {Gr : Gx} {G : GI} {Φ : Ph} {k : Nat} {L : Lc} {X : Cx} {W : WX}
structure StoreOk (L : Lc) (X : Cx) (x : Str) (i : Nat) : Prop extends SlotOk L X x i where
  loc : Loc X.env.scope x
  hf : X.fn x = true ∨ X.env.scope.names.lookup x = some .local
theorem lslot_ok (n : NmOk L X) {x : Str} {i : Nat} (h : L.lslot x = some i) : StoreOk L X x i := by
  unfold Lc.lslot at h
  split at h
  · rename_i e
    exact { slot_ok n h with loc := .inl (n.loc x e), hf := .inr (n.loc x e) }
  · rename_i e
    exact { slot_ok n h with loc := .inr (n.cel x e), hf := .inl (n.fn x e) }
  · cases h
theorem NmOk.nodup (n : NmOk L X) : X.N.Nodup := n.N ▸ n.nd
theorem names_pg (n : NmOk L X) : ∀ {es : List Expr} {is : List Nat}, es.mapM (tgName L) = some is → PGs X es (gNames is) ∧ (assignEach es X.env).length = is.length ∧ (assignEach es X.env).findIdx? (·.1) = none
  | [], is, h => by cases h; exact ⟨pgs_nil, rfl, rfl⟩
  | e :: es, is, h => by
    rw [List.mapM_cons] at h
    cases h1 : tgName L e with
    | none => rw [h1] at h; cases h
    | some i =>
      rw [h1] at h
      cases h2 : es.mapM (tgName L) with
      | none => rw [h2] at h; cases h
      | some js =>
        rw [h2] at h
        cases h
        obtain ⟨a1, a2, a3⟩ := names_pg n h2
        cases e with
        | Name x p =>
          have s := lslot_ok n (show L.lslot x = some i from h1)
          refine ⟨pgs_cons (pg_name n.nodup s.at_ s.loc s.hf) a1, ?_, ?_⟩
          · show (_ :: assignEach es X.env).length = _
            simp [a2]
          · show ((false, _) :: assignEach es X.env).findIdx? (·.1) = none
            rw [List.findIdx?_cons]
            simp [a3]
        | _ => cases h1
theorem tg_pg (n : NmOk L X) (hc : X.calm = true) {tg : Expr} {g : Tg} (h : tgOf L tg = some g) : PG X tg (tTg X.K g) := by
  cases tg with
  | Name x p =>
    have h : (L.lslot x).map Tg.one = some g := h
    cases e : L.lslot x with
    | none => rw [e] at h; cases h
    | some i =>
      rw [e] at h
      cases h
      have s := lslot_ok n e
      exact pg_name n.nodup s.at_ s.loc s.hf
  | Tuple es kk p =>
    have h : (es.mapM (tgName L)).map Tg.tup = some g := h
    cases e : es.mapM (tgName L) with
    | none => rw [e] at h; cases h
    | some is =>
      rw [e] at h
      cases h
      obtain ⟨a1, a2, a3⟩ := names_pg n e
      exact pg_tup hc a1 a2 a3
  | _ => cases h

/-! ### comprehensions -/
theorem relabel_free {env : Env} : ∀ {names : List (Str × NameKind)} {x : Str}, names.lookup x = some .free →
    (names.map fun (n, k) => if (k == NameKind.free && env.scope.kind == .function && env.kindOf n == some .cell) then (n, NameKind.cell) else (n, k)).lookup x = some .cell ∨
    (names.map fun (n, k) => if (k == NameKind.free && env.scope.kind == .function && env.kindOf n == some .cell) then (n, NameKind.cell) else (n, k)).lookup x = some .free
  | [], _, h => by simp at h
  | (n, k) :: r, x, h => by
    have ih := @relabel_free env r x
    rw [List.map_cons]
    by_cases hx : (x == n) = true
    · simp only [List.lookup_cons, hx] at h
      cases h
      by_cases hc : (NameKind.free == NameKind.free && env.scope.kind == .function && env.kindOf n == some .cell) = true
      · left; simp only [if_pos hc, List.lookup_cons, hx]
      · right; simp only [if_neg hc, List.lookup_cons, hx]
    · have hx' : (x == n) = false := by simpa using hx
      simp only [List.lookup_cons, hx'] at h
      by_cases hc : (k == NameKind.free && env.scope.kind == .function && env.kindOf n == some .cell) = true
      · simp only [if_pos hc, List.lookup_cons, hx']; exact ih h
      · simp only [if_neg hc, List.lookup_cons, hx']; exact ih h
theorem NmOk.blk (n : NmOk L X) {sc : Scope} {s : Shared} {H : Hp} {C : Addr} {cl : List (Str × Addr)} {fp : List Addr} : NmOk { N := L.N, nm := sc.names, calm := true, en := none } (X.blk s H sc (compEnvC sc cl C X.env) fp) where
  N := n.N
  nd := n.nd
  loc := fun x h => lookup_relS_keep (sc := X.env.scope) (by decide) h
  cel := fun x h => lookup_relS_keep (sc := X.env.scope) (by decide) h
  fre := fun x h => relabel_free h
  glo := fun x h => lookup_relS_keep (sc := X.env.scope) (by decide) h
  fn := fun x h => by
    show (sc.names.lookup x == some .cell) = true
    rw [show sc.names.lookup x = some .cell from h]; rfl
abbrev W0 : WX := fun _ _ _ _ => False
theorem EOk.blk (ok : EOk Gr G Φ k L X W) (hcalm : L.calm = true) {sc : Scope} {s : Shared} {H : Hp} {C : Addr} {cl : List (Str × Addr)} {fp : List Addr} : EOk Gr G Φ k { N := L.N, nm := sc.names, calm := true, en := none } (X.blk s H sc (compEnvC sc cl C X.env) fp) W0 where
  calm := fun _ => ok.calm hcalm
  room := fun _ => ok.room hcalm
  un := ok.un
  tk := takes0
  nm := ok.nm.blk
  gl := ok.gl
  fl := ok.fl
  mg := ok.mg
  sxc := fun _ => ok.sxc hcalm
  sx := fun a C od h => by rw [ok.sxc hcalm] at h; cases h
theorem blk_of (n : NmOk L X) {sc : Scope} {own : List (Str × Nat)} (h : blkC L.N { kind := .function, names := L.nm, isGenerator := false, isCoroutine := false } sc own = true) : BlkOk X.N X.env.scope sc own := by
  obtain ⟨h1, h2, h3, h4, h5⟩ := blkOk_by h
  refine ⟨h1, h2, ?_, fun y hy hf => ?_, ?_⟩
  · rw [n.N]; exact h3
  · rcases h4 y hy hf with z | z
    · exact .inl (n.cel _ z)
    · exact n.fre _ z
  · rw [n.N]; exact h5
def tTests (K : PySem.W.Frag) (G : Gx) (W : WX) (t : CT) : TT := tTst K G W t
theorem wipeE_at {ρ : En} : ∀ {vs : List Nat} {i : Nat}, ownAt ρ i = false ∨ i ∈ vs → ownAt (wipeE ρ vs) i = false
  | [], i, h => by
    rcases h with h | h
    · exact h
    · simp at h
  | v :: vs, i, h => by
    unfold wipeE
    by_cases hv : v = i
    · subst hv
      unfold ownAt
      rw [List.getElem?_set, if_pos rfl]
      split
      · rename_i e; split at e <;> cases e
      · rfl
    · refine ownAt_set (fun d z => by cases z) (wipeE_at ?_)
      rcases h with h | h
      · exact .inl h
      · rcases List.mem_cons.mp h with h | h
        · exact absurd h.symm hv
        · exact .inr h
theorem wipe_own {ρ : En} {σ : St} {a : Addr} : ∀ {vs : List Nat}, (∀ i ∈ vs, ownAt ρ i = false) → (Own (wipeE ρ vs) (wipe σ vs) a ↔ Own ρ σ a)
  | [], _ => Iff.rfl
  | v :: vs, h => by
    have ih := wipe_own (ρ := ρ) (σ := σ) (a := a) (vs := vs) fun i hi => h i (List.mem_cons_of_mem _ hi)
    unfold wipeE wipe
    refine ⟨fun z => ih.mp (own_set (fun d z => by cases z) z), fun z => own_keep (wipeE_at (.inl (h v (by simp)))) (ih.mpr z)⟩
theorem RE.wiped {K : PySem.W.Frag} {Gr : Gx} {F M : Addr → Prop} {H₀ H : Hp} {ρ : En} {σ : St} (re : RE K Gr F H₀ M ρ σ H) : ∀ vs : List Nat, RE K Gr F H₀ M (wipeE ρ vs) (wipe σ vs) H
  | [] => re
  | v :: vs => (re.wiped vs).put (s := .no) (u := none) trivial
/-- the state within a block: what grows is not to be met -/
theorem RE.within {K : PySem.W.Frag} {Gr : Gx} {F M : Addr → Prop} {H₀ H H1 : Hp} {ρ : En} {σ : St} {D : Addr} {acc : List V} (re : RE K Gr F H₀ M ρ σ H1) (hn : H1 D = none) (s : Same H1 H) (hD : H D = some (.lst acc)) : RE K Gr (fun a => F a ∨ a = D) H (Own ρ σ) ρ σ H := by
  have r2 := re.same s
  refine ⟨r2.len, fun i d e => ?_, fun i d e => ?_, r2.un, fun a o h _ => h, fun a z => ⟨.inr z, fun c => ?_⟩, fun a z => ?_, fun i n ds e => ?_⟩
  · obtain ⟨v, e1, rv⟩ := re.pl i d e
    refine ⟨v, e1, Rp.same (Rp.grow (fun a z => ?_) d v rv) s⟩
    rcases z with (z | z) | z
    · exact .inl (.inl z)
    · subst z; exact .inr hn
    · exact .inl (.inr z)
  · obtain ⟨a, e1, rv⟩ := re.ow i d e
    refine ⟨a, e1, OwR.same s (rv.grow fun a z => ?_)⟩
    rcases z with (z | z) | z
    · exact .inl (.inl z)
    · subst z; exact .inr hn
    · exact .inl (.inr z)
  · rcases c with c | c
    · exact (re.own a z).2 c
    · subst c
      have m := re.ff (.inr z)
      rw [hn] at m
      exact m
  · rcases z with z | z
    · refine ⟨r2.ff (.inl z), fun c => (re.own a c).2 z⟩
    · subst z
      refine ⟨by rw [hD]; trivial, fun c => ?_⟩
      have m := re.ff (.inr c)
      rw [hn] at m
      exact m
  · obtain ⟨a, C, od, e1, e2, x⟩ := re.ex i n ds e
    refine ⟨a, C, od, e1, e2, x.keep (fun _ _ e => s _ _ e) fun vs r => Rps.same (Rps.grow (fun a z => ?_) ds vs r) s⟩
    rcases z with (z | z) | z
    · exact .inl (.inl z)
    · subst z; exact .inr hn
    · exact .inl (.inr z)

theorem comp_turns {K : PySem.W.Frag} {Gr : Gx} {F M : Addr → Prop} {H₀ H1 : Hp} {ρ : En} {σ : St} {D : Addr} {J : It} {g : Tg} {t : CT} {e : CE} {vs : List Nat} {ds out : List PyData} {Q : Hp → Prop}
    (re : RE K Gr F H₀ M ρ σ H1) (hn : H1 D = none) (hv : ∀ i ∈ vs, ownAt ρ i = false) (hg : ∀ i ∈ g.ixs, i ∈ vs) (hz : ds.length ≤ sizeLine) (io : ItOk K (fun _ => False) (FF F ρ σ) H1 J ds) (hc : compL g t e (wipeE ρ vs) ds = .ok out)
    (hQ : ∀ H acc, Same H1 H → H D = some (.lst acc) → Rps K (fun a => FF F ρ σ a ∨ a = D) H out acc → Q H) :
    ∃ W : Nat → Nat → Hp → Prop, (∃ m, W 0 m (upd H1 D (.lst []))) ∧ ∀ i m H, W i m H →
      (J.stop i H ∧ Q H) ∨ (J.go i H ∧ ∃ Nx : Hp → Prop, (∀ H', Nx H' → ∃ m', m' < m ∧ W (i + 1) m' H') ∧ ∀ x H', J.yld i H x H' → tTg K g x (wipe σ vs) H' fun σ2 H2 => wipe σ2 vs = wipe σ vs ∧ tTst K Gr W0 t σ2 H2 fun b H3 =>
        if b = true then tE K Gr W0 e σ2 H3 fun y H4 => ∃ acc, H4 D = some (.lst acc) ∧ acc.length < sizeLine ∧ Nx (upd H4 D (.lst (acc ++ [y]))) else Nx H3) := by
  have st : ∀ {H}, Same H1 H → Stay (fun _ => False) H1 H := fun s a o _ h => s a o h
  let Wd : Nat → Hp → Prop := fun i H => i ≤ ds.length ∧ Same H1 H ∧ ∃ acc o1 o2, H D = some (.lst acc) ∧ Rps K (fun a => FF F ρ σ a ∨ a = D) H o1 acc ∧ o1.length ≤ i ∧ compL g t e (wipeE ρ vs) (ds.drop i) = .ok o2 ∧ o1 ++ o2 = out
  refine ⟨fun i m H => m = ds.length - i ∧ Wd i H, ⟨_, rfl, Nat.zero_le _, same_upd hn, [], [], out, upd_same, rfl, Nat.le_refl _, by simpa using hc, rfl⟩, ?_⟩
  rintro i m H ⟨rfl, hi, s, acc, o1, o2, hD, r1, hl, h2, ho⟩
  by_cases hlt : i < ds.length
  · right
    refine ⟨io.go i H hlt (st s), Wd (i + 1), fun H' h => ⟨_, by omega, rfl, h⟩, fun x H' y => ?_⟩
    have ei : ds[i]? = some ds[i] := by simp [hlt]
    obtain ⟨s', rx⟩ := io.yld (fun a => FF F ρ σ a ∨ a = D) (fun a z => z.imp id fun z => by subst z; exact hn) i H H' x ds[i] (st s) ei y
    have sH := s.trans s'
    have re1 := (re.within hn sH (s' _ _ hD)).wiped vs
    have ow : ∀ a, Own (wipeE ρ vs) (wipe σ vs) a ↔ Own ρ σ a := fun a => wipe_own hv
    rw [List.drop_eq_getElem_cons hlt] at h2
    unfold compL at h2
    cases ht : tgSet g ds[i] (wipeE ρ vs) with
    | ok ρ' =>
      rw [ht, R.bind_ok] at h2
      refine tg_run re1 (rx.less fun a z => ?_) ht fun σ2 re2 ch => ⟨?_, ?_⟩
      · rcases z with (z | z) | z
        · exact .inl (.inl z)
        · exact .inr z
        · exact .inl (.inr ((ow a).mp z))
      · rw [ch.wip vs hg]
        exact wipe_ext (wipe_length _ _) fun j hj => wipe_out hj
      · have fw : ∀ a, FF F ρ σ a ∨ a = D → FF (fun a => F a ∨ a = D) ρ' σ2 a := fun a z => by
          rcases z with (z | z) | z
          · exact .inl (.inl z)
          · exact .inr (ch.owk (fun j hj => wipeE_at (.inr (hg j hj))) a ((ow a).mpr z))
          · exact .inl (.inr z)
        have bw : ∀ a, FF (fun a => F a ∨ a = D) ρ' σ2 a → FF F ρ σ a ∨ a = D := fun a z => by
          rcases z with (z | z) | z
          · exact .inl (.inl z)
          · exact .inr z
          · exact .inl (.inr ((ow a).mp (ch.owl a z)))
        refine ⟨_, _, _, ρ', re2, ?_⟩
        cases hb : t ρ' with
        | ok b =>
          rw [hb, R.bind_ok] at h2
          intro b' H3 s3 eb
          subst eb
          cases b with
          | false =>
            rw [if_neg (by simp)] at h2 ⊢
            exact ⟨hlt, sH.trans s3, acc, o1, o2, s3 _ _ (s' _ _ hD), (r1.same (s'.trans s3)), by omega, h2, ho⟩
          | true =>
            rw [if_pos rfl] at h2 ⊢
            refine ⟨_, _, _, ρ', re2.same s3, ?_⟩
            cases hy : e ρ' with
            | ok yd =>
              rw [hy, R.bind_ok] at h2
              intro y' H4 s4 ry
              have h4 := s4 _ _ (s3 _ _ (s' _ _ hD))
              have sk : Kp (fun a => FF F ρ σ a ∨ a = D) H4 (upd H4 D (.lst (acc ++ [y']))) := fun b o hb c => by
                by_cases hbd : b = D
                · subst hbd
                  rw [h4] at hb
                  cases hb
                  rcases c with c | ⟨xs, c⟩ | ⟨u, xs, c⟩
                  · exact absurd (.inr rfl) c
                  · cases c
                  · cases c
                · rw [upd_ne hbd]; exact hb
              cases hr : compL g t e (wipeE ρ vs) (ds.drop (i + 1)) with
              | ok ys =>
                rw [hr, R.bind_ok] at h2
                cases h2
                have hal : acc.length ≤ i := by rw [← r1.length]; exact hl
                refine ⟨acc, h4, by omega, hlt, ?_, _, o1 ++ [yd], ys, upd_same, ?_, by simp; omega, hr, by simp [← ho]⟩
                · intro a o ha
                  by_cases had : a = D
                  · subst had; rw [hn] at ha; cases ha
                  · rw [upd_ne had]; exact (sH.trans (s3.trans s4)) a o ha
                · refine Rps.append (Rps.keep sk (fun _ z => z) _ _ (r1.same (s'.trans (s3.trans s4)))) (Rps.one (Rp.keep sk (fun _ z => z) _ _ (ry.less fw)))
              | exc n es => rw [hr] at h2; cases h2
              | bad => rw [hr] at h2; cases h2
            | exc n es => rw [hy] at h2; cases h2
            | bad => rw [hy] at h2; cases h2
        | exc n es => rw [hb] at h2; cases h2
        | bad => rw [hb] at h2; cases h2
    | exc n es => rw [ht] at h2; cases h2
    | bad => rw [ht] at h2; cases h2
  · left
    have e : i = ds.length := by omega
    subst e
    refine ⟨io.stop H (st s), ?_⟩
    rw [List.drop_length] at h2
    cases h2
    rw [List.append_nil] at ho
    subst ho
    exact hQ H acc s hD r1
theorem tF_comp {K : PySem.W.Frag} {Gr : Gx} {W : WX} {σ : St} {H : Hp} {Q : VK} {ci : CI} {g : Tg} {t : CT} {e : CE} {vs : List Nat} (hg : ∀ i ∈ g.ixs, i ∈ vs) (h : tF K Gr W (cComp ci vs g t e) σ H Q) :
    tLc (tIt K Gr W true ci) (tTg K g) (tTst K Gr W0 t) (tE K Gr W0 e) vs σ H Q := by
  obtain ⟨F, H₀, M, ρ, re, p⟩ := h
  refine ⟨F, H₀, M, ρ, re, ?_⟩
  unfold cComp at p
  cases hc : ci ρ with
  | ok ds =>
    rw [hc, R.bind_ok] at p
    intro J H1 s1 hz io D hn
    split at p
    · exact False.elim p
    · rename_i hv
      obtain ⟨out, ho, q⟩ := quiet_bind p
      have hv' : ∀ i ∈ vs, ownAt ρ i = false := fun i hi => by
        cases hx : ownAt ρ i with
        | false => rfl
        | true => exact absurd (List.any_eq_true.mpr ⟨i, hi, hx⟩) hv
      refine comp_turns (re.same s1) hn hv' hg hz io ho fun H' acc s' hD r => ?_
      exact q _ _ (s1.trans s') ⟨D, acc, rfl, s1.free hn, hD, r⟩
  | exc n es => rw [hc] at p; exact p
  | bad => rw [hc] at p; exact p
theorem folded_of {e : Expr} {env : Env} (h : notSet e = true) : ∀ x, foldedSetIterable e env x = pure x := by
  cases e <;> first | (intro x; rfl) | cases h
end
end Pv


/-! what a suite asks of its exception; count, index -/
namespace Pv
open PySem PySem.Spec L2
open PyProof.Rows hiding St

section
variable {Gr : Gx} {G : GI} {Φ : Ph} {k : Nat} {L : Lc} {X : Cx} {W : WX}
theorem has_flds {n f : Str} (h : f ∈ G.flds n) : G.flds n ≠ [] := fun z => by rw [z] at h; cases h
theorem zip_lookup {K : PySem.W.Frag} {F : Addr → Prop} {H : Hp} {f : Str} {d : PyData} : ∀ {fs : List Str} {ds : List PyData} {vs : List V}, (fs.zip ds).lookup f = some d → Rps K F H ds vs → ∃ v, (fs.zip vs).lookup f = some v ∧ Rp K F H d v
  | [], ds, vs, h, r => by cases h
  | g :: fs, [], vs, h, r => by cases h
  | g :: fs, e :: ds, vs, h, r => by
    obtain ⟨v, w, rfl, rv, rw'⟩ := r
    rw [List.zip_cons_cons, List.lookup_cons] at h
    rw [List.zip_cons_cons, List.lookup_cons]
    cases hx : f == g with
    | true => rw [hx] at h; cases h; exact ⟨v, rfl, rv⟩
    | false => rw [hx] at h; exact zip_lookup h rw'
theorem exnOf_is {e : Expr} {i : Nat} (h : exnOf L e = some i) : ∃ x p, e = .Name x p ∧ L.slot x = some i := by
  cases e with
  | Name x p =>
    have h : (if L.en = some x then L.slot x else none) = some i := h
    split at h
    · exact ⟨x, p, rfl, h⟩
    · cases h
  | _ => cases h
theorem sn_fld (ok : EOk Gr G Φ k L X W) {o : Expr} {i : Nat} {f : Str} {pos : Pos} (h : exnOf L o = some i) : PE X (.Attribute o f pos) (tE X.K Gr W (cFld G i f)) := by
  obtain ⟨x, p, rfl, hs⟩ := exnOf_is h
  cases hx : Gr.sx with
  | none =>
    refine ⟨fun pins s σ H Q I hh => ?_⟩
    obtain ⟨F, H₀, M, ρ, re, q⟩ := hh
    unfold cFld at q
    split at q
    · rename_i e
      obtain ⟨a, C, od, e1, _⟩ := re.ex _ _ _ e
      rw [hx] at e1; cases e1
    · exact False.elim q
  | some z =>
    obtain ⟨a, C, od⟩ := z
    obtain ⟨X0, oe, pn, rfl, hz, hf⟩ := ok.sx a C od hx
    by_cases hc : ∃ n, Gr.mg n = some (.ref C) ∧ G.has n = true ∧ f ∈ G.flds n
    · obtain ⟨n, h1, h2, h3⟩ := hc
      have c := ok.gl.cls n C h2 (by rw [← ok.mg]; exact h1)
      have s := slot_ok ok.nm hs
      refine PE.imp (pe_xf (X := X0) (a := a) ⟨c.hg, c.hk, c.hs, c.hd⟩ (c.fl f h3) hz hf (pe_var s.at_ s.vis s.d1 s.d2)) fun σ H Q hh => ?_
      obtain ⟨F, H₀, M, ρ, re, q⟩ := hh
      unfold cFld at q
      split at q
      · rename_i n' ds e
        obtain ⟨a', C', od', e1, e2, C2, x1, x2, x3⟩ := re.ex _ _ _ e
        rw [hx] at e1
        cases e1
        cases x2
        split at q
        · rename_i hh
          rcases x3 with ⟨x3, _⟩ | ⟨_, dx, ws, h5, h6, h7, h8⟩
          · rw [ok.fl] at x3; exact absurd x3 (has_flds hh.2)
          · rw [ok.fl] at h6
            split at q
            · rename_i d hd
              obtain ⟨v, hv, rv⟩ := zip_lookup hd h8
              exact ⟨_, e2, rfl, rfl, dx, _, v, h5, h6, hv, q v H (Same.refl H) rv⟩
            · exact False.elim q
        · exact False.elim q
      · exact False.elim q
    · refine ⟨fun pins s σ H Q I hh => ?_⟩
      obtain ⟨F, H₀, M, ρ, re, q⟩ := hh
      unfold cFld at q
      split at q
      · rename_i n' ds e
        obtain ⟨a', C', od', e1, e2, C2, x1, x2, x3⟩ := re.ex _ _ _ e
        rw [hx] at e1
        cases e1
        cases x2
        split at q
        · rename_i hh
          exact absurd ⟨n', x1, hh.1, hh.2⟩ hc
        · exact False.elim q
      · exact False.elim q
/-! isinstance of it -/
/-- the value of a class name -/
def VofC (cv : Value) : V := match cv with
  | .ref a => .ref a
  | .type n => .ty n
  | _ => .non
theorem exTy1_ok (ok : EOk Gr G Φ k L X W) {e : Expr} {t : Str} (h : exTy1 G L e = some t) : ∃ cv, ClsOf G X.mg t cv ∧ ((∃ a, cv = .ref a) ∨ ∃ n, cv = .type n) ∧ PE X e (tC (VofC cv)) ∧ notStar e = true := by
  cases e with
  | Name x p =>
    have h : (if (L.glob x && G.clsName x) = true then some x else none) = some t := h
    split at h
    · rename_i hg
      cases h
      rw [Bool.and_eq_true] at hg
      have g := glob_ok ok.nm hg.1
      obtain ⟨cv, hc, hr⟩ := ok.gl.nms _ hg.2
      refine ⟨cv, hc, hr, ?_, rfl⟩
      have rv : RelV (VofC cv) cv := by
        rcases hr with ⟨a, rfl⟩ | ⟨n, rfl⟩
        · exact rfl
        · exact rfl
      rcases hc with ⟨_, hc⟩ | ⟨_, h1, h2⟩
      · exact pe_glob g.gl hc rv g.d1
      · exact pe_bltn g.gl h1 h2 rv g.nn g.d1
    · cases h
  | _ => cases h
def tCls (cvs : List Value) : TA := fun _ H Q => Q (cvs.map VofC) H
theorem exTys_pa (ok : EOk Gr G Φ k L X W) : ∀ {es : List Expr} {ts : List Str}, es.mapM (exTy1 G L) = some ts → ∃ cvs, cvs.length = es.length ∧ Paired (ClsOf G X.mg) ts cvs ∧ (∀ cv ∈ cvs, (∃ a, cv = .ref a) ∨ ∃ n, cv = .type n) ∧ PA X es (tCls cvs)
  | [], ts, h => by
    cases h
    exact ⟨[], rfl, .nil, (fun _ z => by cases z), PA.imp pa_nil fun σ H Q q => q⟩
  | e :: es, ts, h => by
    rw [List.mapM_cons] at h
    cases h1 : exTy1 G L e with
    | none => rw [h1] at h; cases h
    | some t =>
      rw [h1] at h
      cases h2 : es.mapM (exTy1 G L) with
      | none => rw [h2] at h; cases h
      | some ts' =>
        rw [h2] at h
        cases h
        obtain ⟨cv, a1, a2, a3, a4⟩ := exTy1_ok ok h1
        obtain ⟨cvs, b1, b2, b3, b4⟩ := exTys_pa ok h2
        refine ⟨cv :: cvs, by simp [b1], .cons a1 b2, fun c hc => ?_, PA.imp (pa_cons a3 b4 (star_cons a4)) fun σ H Q q => q⟩
        rcases List.mem_cons.mp hc with rfl | hc
        · exact a2
        · exact b3 c hc
theorem kitAny_cls {K : PySem.W.Frag} {mg : Str → Option Value} {n : Str} {C : Addr} (c : ClOk G K mg n C) : ∀ {ts : List Str} {cvs : List Value}, Paired (ClsOf G mg) ts cvs → PySem.W.kitAny K (.ref C) cvs = some (ts.any fun t => decide (t ∈ G.ups n))
  | [], [], _ => rfl
  | t :: ts, cv :: cvs, .cons h r => by
    have e := c.is _ _ h
    have r := kitAny_cls c r
    rw [List.any_cons]
    unfold PySem.W.kitAny
    rw [e]
    cases decide (t ∈ G.ups n) with
    | true => rfl
    | false => exact r
theorem relV_of {cv u : Value} (hr : (∃ a, cv = .ref a) ∨ ∃ n, cv = .type n) (r : RelV (VofC cv) u) : u = cv := by
  rcases hr with ⟨a, rfl⟩ | ⟨n, rfl⟩
  · exact r
  · exact r
theorem vals_of : ∀ {cvs us : List Value}, (∀ cv ∈ cvs, (∃ a, cv = .ref a) ∨ ∃ n, cv = .type n) → Vals (cvs.map VofC) us → us = cvs
  | [], us, _, r => by cases r; rfl
  | cv :: cvs, us, h, r => by
    cases r with
    | cons r1 r2 =>
      rw [relV_of (h cv (by simp)) r1, vals_of (fun c hc => h c (List.mem_cons_of_mem _ hc)) r2]
/-- the caught one, as isinstance asks it -/
theorem inst_caught {a C : Addr} {oe : Obj} {od : Option Addr} {h : Heap} {H : Hp} {P : Program} {w : World} (ho : h.get? a = some oe) (hz : Zc (.ref C) od oe) (hf : ∃ vs, oe.data = .fields vs) (hk : HOk P w H h) (hd : ∀ dx, od = some dx → ∃ fs, H dx = some (.xd fs)) : ∃ od', PySem.W.InstAt h a oe C od' := by
  obtain ⟨vs, hv⟩ := hf
  obtain ⟨oc, odd, oda, osl⟩ := oe
  obtain ⟨h1, h2⟩ := hz
  dsimp only at h1 h2 hv
  subst h1 h2 hv
  cases odd with
  | none => exact ⟨none, ho, rfl, rfl, trivial⟩
  | some dx =>
    obtain ⟨fs, hfs⟩ := hd dx rfl
    obtain ⟨mA, ⟨o, es, ep, e, _⟩, _⟩ := hk dx _ hfs
    exact ⟨some o, ho, rfl, rfl, e⟩
theorem call_is1 {a C : Addr} {oe : Obj} {od : Option Addr} {pn : List (Addr × Obj)} {mg : Str → Option Value} {n : Str} (c : ClOk G X.K mg n C) (hz : Zc (.ref C) od oe) (hf : ∃ vs, oe.data = .fields vs) :
    CallR (X.suite a ((a, oe) :: pn)) (.builtin "isinstance") (fun xs H Q => (∀ dx, od = some dx → ∃ fs, H dx = some (.xd fs)) ∧
      ((∃ t cv, xs = [.ref a, VofC cv] ∧ ((∃ a, cv = .ref a) ∨ ∃ n, cv = .type n) ∧ ClsOf G mg t cv ∧ Q (.bl (decide (t ∈ G.ups n))) H) ∨
       (∃ p ts cvs, xs = [.ref a, .ref p] ∧ H p = some (.tup (cvs.map VofC)) ∧ (∀ cv ∈ cvs, (∃ a, cv = .ref a) ∨ ∃ n, cv = .type n) ∧ Paired (ClsOf G mg) ts cvs ∧ Q (.bl (ts.any fun t => decide (t ∈ G.ups n))) H))) := by
  intro pins s σ H xs us Q I r h
  obtain ⟨hd, h⟩ := h
  obtain ⟨hget, _⟩ := I.pin (a, oe) (List.mem_append.mpr (.inl List.mem_cons_self))
  obtain ⟨od', J⟩ := inst_caught hget hz hf I.hok hd
  have hcl : (PySem.W.clsIn X.K C).isSome = true := by
    obtain ⟨cd, hc, _⟩ := PySem.W.any_some c.hd
    rw [hc]; rfl
  have Z := PySem.W.kitx_exc (x := a) (ox := oe) (od := od') hcl c.hg c.hk c.hs c.ha c.hn c.ht c.hm
  rcases h with ⟨t, cv, rfl, hr, ht, q⟩ | ⟨p, ts, cvs, rfl, hp, hr, ht, q⟩
  · obtain ⟨u1, u2, rfl, r1, r2⟩ := vals2 r
    cases (show u1 = Value.ref a from r1)
    cases relV_of hr r2
    exact PySem.W.kia_one Z I.kIn J (c.is t cv ht) (fun z => nomatch z) fun tk => ⟨.bl _, H, I.kept (t' := tk) fun _ _ z => z, rfl, q⟩
  · obtain ⟨u1, u2, rfl, r1, r2⟩ := vals2 r
    cases (show u1 = Value.ref a from r1)
    cases (show u2 = Value.ref p from r2)
    obtain ⟨_, its, rv, o, h1, h2, m, h3⟩ := (show ObjOk X.prog X.w H s.heap p (.tup (cvs.map VofC)) from I.hok p _ hp)
    cases vals_of hr rv
    obtain ⟨oc, odd, dt, sl⟩ := o
    simp only at h2 h3
    subst h2 h3
    exact PySem.W.kia_tup Z I.kIn J h1 (kitAny_cls c ht) (fun z => nomatch z) fun tk => ⟨.bl _, H, I.kept (t' := tk) fun _ _ z => z, rfl, q⟩
theorem sn_isE (ok : EOk Gr G Φ k L X W) {a b : Expr} {i : Nat} {ts : List Str} {p pos : Pos} (hg : L.glob "isinstance" = true) (ha : exnOf L a = some i) (hb : exTys G L b = some ts) : PE X (.Call (.Name "isinstance" p) [a, b] [] pos) (tE X.K Gr W (cIsE G i ts)) := by
  obtain ⟨x, px, rfl, hs⟩ := exnOf_is ha
  have g := glob_ok ok.nm hg
  cases hx : Gr.sx with
  | none =>
    refine ⟨fun pins s σ H Q I hh => ?_⟩
    obtain ⟨F, H₀, M, ρ, re, q⟩ := hh
    unfold cIsE at q
    split at q
    · rename_i e
      obtain ⟨a, C, od, e1, _⟩ := re.ex _ _ _ e
      rw [hx] at e1; cases e1
    · exact False.elim q
  | some z =>
    obtain ⟨a, C, od⟩ := z
    obtain ⟨X0, oe, pn, rfl, hz, hf⟩ := ok.sx a C od hx
    have s := slot_ok ok.nm hs
    have pv := pe_var (X := X0.suite a ((a, oe) :: pn)) (pos := px) s.at_ s.vis s.d1 s.d2
    -- what the closure tells
    have look : ∀ {σ H} {Q : VK}, tE X0.K Gr W (cIsE G i ts) σ H Q → ∃ n, G.has n = true ∧ Gr.mg n = some (.ref C) ∧ σ[i]? = some (some (.ref a)) ∧ (∀ dx, od = some dx → ∃ fs, H dx = some (.xd fs)) ∧ ∀ H', Same H H' → Q (.bl (ts.any fun t => decide (t ∈ G.ups n))) H' := by
      intro σ H Q hh
      obtain ⟨F, H₀, M, ρ, re, q⟩ := hh
      unfold cIsE at q
      split at q
      · rename_i n' ds e
        obtain ⟨a', C', od', e1, e2, C2, x1, x2, x3⟩ := re.ex _ _ _ e
        rw [hx] at e1
        cases e1
        cases x2
        split at q
        · rename_i hn
          refine ⟨n', hn, x1, e2, fun dx hdx => ?_, fun H' s' => q _ H' s' rfl⟩
          rcases x3 with ⟨_, _, x3⟩ | ⟨_, dx', ws, h5, h6, _⟩
          · rw [x3] at hdx; cases hdx
          · rw [h5] at hdx; cases hdx; exact ⟨_, h6⟩
        · exact False.elim q
      · exact False.elim q
    by_cases hc : ∃ n, G.has n = true ∧ Gr.mg n = some (.ref C)
    · -- the class is known
      have one : ∀ {t : Str}, exTy1 G L b = some t → ts = [t] → PE (X0.suite a ((a, oe) :: pn)) (.Call (.Name "isinstance" p) [.Name x px, b] [] pos) (tE X0.K Gr W (cIsE G i ts)) := by
        intro t h1 ht
        subst ht
        obtain ⟨cv, a1, a2, a3, a4⟩ := exTy1_ok ok h1
        refine ⟨fun pins s σ H Q I hh => ?_⟩
        obtain ⟨n, n1, n2, n3, n4, n5⟩ := look hh
        have c := ok.gl.cls n C n1 (by rw [← ok.mg]; exact n2)
        refine (pe_callB (call_is1 c hz hf) g.gl (ok.gl.bi _ (by decide)) (by decide +kernel) (pa_cons pv (pa_cons a3 pa_nil (star_cons a4)) rfl) g.nn g.d1 rfl (by rw [star_cons a4]; rfl)).run pins s σ H Q I ?_
        exact ⟨_, n3, n4, .inl ⟨t, cv, rfl, a2, a1, by have := n5 H (Same.refl H); simpa using this⟩⟩
      cases b with
      | Tuple es kk tp =>
        have hb : (if es.length ≤ 100 then es.mapM (exTy1 G L) else none) = some ts := hb
        split at hb
        · rename_i hz100
          obtain ⟨cvs, b1, b2, b3, b4⟩ := exTys_pa ok hb
          refine ⟨fun pins s σ H Q I hh => ?_⟩
          obtain ⟨n, n1, n2, n3, n4, n5⟩ := look hh
          have c := ok.gl.cls n C n1 (by rw [← ok.mg]; exact n2)
          refine (pe_callB (call_is1 c hz hf) g.gl (ok.gl.bi _ (by decide)) (by decide +kernel) (pa_cons pv (pa_cons (pe_tup b4) pa_nil)) g.nn g.d1 rfl rfl).run pins s σ H Q I ?_
          refine ⟨_, n3, ?_, fun q nq => ⟨fun dx hdx => ?_, .inr ⟨q, ts, cvs, rfl, upd_same, b3, b2, n5 _ (same_upd nq)⟩⟩⟩
          · have := sizeLine_eq
            rw [List.length_map, b1]; omega
          · obtain ⟨fs, e⟩ := n4 dx hdx
            exact ⟨fs, same_upd nq _ _ e⟩
        · cases hb
      | Name y py =>
        have hb : (exTy1 G L (.Name y py)).map (fun x => [x]) = some ts := hb
        cases h1 : exTy1 G L (.Name y py) with
        | none => rw [h1] at hb; cases hb
        | some t => rw [h1] at hb; cases hb; exact one h1 rfl
      | _ => cases hb
    · refine ⟨fun pins s σ H Q I hh => ?_⟩
      obtain ⟨n, n1, n2, _⟩ := look hh
      exact absurd ⟨n, n1, n2⟩ hc

/-! ### xs.count(y), xs.index(y) -/
def rM (K : PySem.W.Frag) (g : PyData → PyData → R PyData) : V → List V → Hp → VK → Prop := fun x xs H Q => ∃ y, xs = [y] ∧ rD K g x y H Q
theorem find_at {α : Type} {p : α → Bool} : ∀ {l : List α} {j : Nat}, l.findIdx? p = some j → ∃ z, l[j]? = some z ∧ p z = true ∧ ∀ m y, m < j → l[m]? = some y → p y = false
  | [], j, h => by cases h
  | a :: l, j, h => by
    rw [List.findIdx?_cons] at h
    cases ha : p a with
    | true =>
      rw [ha] at h
      cases h
      exact ⟨a, rfl, ha, fun m y hm => absurd hm (Nat.not_lt_zero _)⟩
    | false =>
      rw [ha] at h
      cases hf : l.findIdx? p with
      | none => rw [hf] at h; cases h
      | some i =>
        rw [hf] at h
        cases h
        obtain ⟨z, h1, h2, h3⟩ := find_at hf
        refine ⟨z, h1, h2, fun m y hm hy => ?_⟩
        cases m with
        | zero => cases hy; exact ha
        | succ m => exact h3 m y (by have hm : m + 1 < i + 1 := hm; omega) hy
theorem mtd_count (hu : X.A.units + 128 < cLine) : MtR X "list.count" (rM X.K countD) := by
  intro pins s σ H x xs v us Q I rx rxs h
  obtain ⟨y, rfl, F, d, e, r, tr, hd, he, hg, q⟩ := h
  obtain ⟨uy, rfl, ry⟩ := Vals.one rxs
  cases d with
  | list ds =>
    simp only [countD] at hg
    split at hg
    · rename_i hz
      cases hg
      obtain ⟨⟨hz, nd⟩, hn⟩ := hz
      obtain ⟨bs, r2⟩ := he.reads I nd ry
      obtain ⟨a, vs, rfl, q1, r3⟩ := hd
      cases rx
      obtain ⟨hlen, its, n, rv, ho⟩ := Inv.exactL I q1
      have ra : ∃ as, ReadsAll s.heap its ds as := Dp.readsAll I ds _ its (Rps.dp ds vs hn r3) rv
      obtain ⟨as2, ra⟩ := ra
      refine call_meets PySem.F.slot_list_count ⟨_, ho, rfl⟩ PySem.F.entry_list_count (PySem.F.args_list_count_2 _ _)
        (SeqAt.list_countAt a its.toArray n _ _ uy (ansU s.heap e)) ⟨ho, fun u hu' => ansU_eqAt r2 nd hz (by show X.A.units + 1 + 64 < cLine; omega) ra hn u (by simpa using hu'), ?_⟩
      rw [show its.toArray.toList = its from rfl, ansU_count ra hn]
      exact ⟨.int _, H, I.tok _, ⟨_, rfl⟩, q _ _ (Same.refl H) rfl⟩
    · cases hg
  | _ => cases hg
theorem ansU_at {h : Heap} {d : PyData} : ∀ {ds : List PyData} {us : List Value} {as : List Addr} {j : Nat} {z : PyData}, ReadsAll h us ds as → noDics ds = true → ds[j]? = some z → ∃ u, us[j]? = some u ∧ ansU h d u = PyData.eqv z d
  | [], _, _, j, z, r, _, e => by simp at e
  | x :: ds, _, _, j, z, r, hn, e => by
    cases r with | cons r1 r2 => ?_
    cases j with
    | zero => simp at e; subst e; exact ⟨_, rfl, ansU_of r1 (noDics_cons hn).1⟩
    | succ j =>
      obtain ⟨u, e1, e2⟩ := ansU_at (j := j) r2 (noDics_cons hn).2 (by simpa using e)
      exact ⟨u, by simpa using e1, e2⟩
theorem mtd_index (hu : X.A.units + 128 < cLine) : MtR X "list.index" (rM X.K indexD) := by
  intro pins s σ H x xs v us Q I rx rxs h
  obtain ⟨y, rfl, F, d, e, r, tr, hd, he, hg, q⟩ := h
  obtain ⟨uy, rfl, ry⟩ := Vals.one rxs
  cases d with
  | list ds =>
    simp only [indexD] at hg
    split at hg
    · rename_i hz
      split at hg
      · rename_i j hj
        cases hg
        obtain ⟨⟨hz, nd⟩, hn⟩ := hz
        obtain ⟨bs, r2⟩ := he.reads I nd ry
        obtain ⟨a, vs, rfl, q1, r3⟩ := hd
        cases rx
        obtain ⟨hlen, its, n, rv, ho⟩ := Inv.exactL I q1
        obtain ⟨as2, ra⟩ : ∃ as, ReadsAll s.heap its ds as := Dp.readsAll I ds _ its (Rps.dp ds vs hn r3) rv
        obtain ⟨z, h1, h2, h3⟩ := find_at hj
        have hl1 := r3.length
        have hl2 := rv.length
        have hsl := sizeLine_eq
        obtain ⟨hjd, _⟩ := List.getElem?_eq_some_iff.mp h1
        have hjl : j < its.length := by omega
        have at_ : ∀ (m : Nat) (hm : m < its.toArray.size) (z' : PyData), ds[m]? = some z' → ansU s.heap e its.toArray[m] = PyData.eqv z' e := by
          intro m hm z' hz'
          obtain ⟨u, e1, e2⟩ := ansU_at ra hn hz'
          have hml : m < its.length := by simpa using hm
          rw [List.getElem?_eq_getElem hml] at e1
          cases e1
          simpa using e2
        refine call_meets PySem.F.slot_list_index ⟨_, ho, rfl⟩ PySem.F.entry_list_index (PySem.F.args_list_index_2 _ _)
          (SeqAt.list_indexAt a its.toArray n _ _ uy (ansU s.heap e) j (by simpa using hjl) (by omega) ?_ ?_) ⟨ho, fun u hu' => ansU_eqAt r2 nd hz (by show X.A.units + 1 + 64 < cLine; omega) ra hn u (by simpa using hu'), ?_⟩
        · rw [at_ j (by simpa using hjl) z h1]; exact h2
        · intro m hm hmj
          have hmd : m < ds.length := by omega
          rw [at_ m hm _ (List.getElem?_eq_getElem hmd)]
          exact h3 m _ hmj (List.getElem?_eq_getElem hmd)
        · exact ⟨.int _, H, I.tok _, ⟨_, rfl⟩, q _ _ (Same.refl H) rfl⟩
      · cases hg
    · cases hg
  | _ => cases hg
end
end Pv


/-! dicts: displays, get -/
namespace Pv
open PySem PySem.Spec L2
open PyProof.Rows hiding St
section
variable {Gr : Gx} {G : GI} {Φ : Ph} {k : Nat} {L : Lc} {X : Cx} {W : WX}
theorem dco_nil : DcO [] [] (.dK []) := .inl ⟨[], rfl, rfl⟩
theorem sn_dic0 {pos : Pos} : PE X (.Dict [] [] pos) (tF X.K Gr W (cK (.dict []))) := PE.imp pe_dnewK fun σ H Q h => by
  obtain ⟨F, H₀, M, ρ, re, q⟩ := h
  exact fun p np => q _ _ (same_upd np) ⟨p, [], _, rfl, np, upd_same, dco_nil, rfl⟩
/-! get -/
theorem dget_of {K : PySem.W.Frag} {F : Addr → Prop} {H : Hp} {kvs : List (PyData × PyData)} {key : PyData} {κ : Key} {x y : V} (hk : keyK key = some κ) (ha : allK kvs = true) (hb : Rb K F H (.dict kvs) x) (hy : Rb K F H key y) :
    ∃ a o, x = .ref a ∧ DGet H a y o ∧ IsD H a ∧ (match fndG keyK κ kvs with | some d => ∃ v, o = some v ∧ Rp K F H d v | none => o = none) := by
  obtain ⟨a, vs, ob, rfl, e, c, rk⟩ := hb
  obtain ⟨ks, e1, rfl⟩ := dco_K c (fun p hp => by
    obtain ⟨q, hq, rfl⟩ := List.mem_map.mp hp
    exact List.all_eq_true.mp ha q hq)
  rw [rb_key hk hy]
  exact ⟨a, _, rfl, DGet.k e, .inl ⟨_, .inl e⟩, fnd_rel keyK_kD κ e1 rk⟩
theorem isD_of {K : PySem.W.Frag} {F : Addr → Prop} {H : Hp} {kvs : List (PyData × PyData)} {x : V} (hb : Rb K F H (.dict kvs) x) : ∃ a, x = .ref a ∧ IsD H a := by
  obtain ⟨a, vs, ob, rfl, e, c, rk⟩ := hb
  rcases c with ⟨κ, _, rfl⟩ | ⟨_, κ, _, rfl⟩
  · exact ⟨a, rfl, .inl ⟨_, .inl e⟩⟩
  · exact ⟨a, rfl, .inr ⟨_, .inl e⟩⟩
theorem sn_get1 (ok : EOk Gr G Φ k L X W) {o a : Expr} {c d : CE} {apos cpos : Pos} (hs : notStar a = true) (hp : plainB o = true) (hl : (apos.endLine == cpos.line) = true) (ho : PE X o (tB X.K Gr W c)) (ha : PE X a (tB X.K Gr W d)) :
    PE X (.Call (.Attribute o "get" apos) [a] [] cpos) (tE X.K Gr W (cGet1 c d)) := by
  have hbase : ∀ m, attributeBase o m X.env (eval o X.env) = eval o X.env := by
    cases o <;> first | (intro m; rfl) | cases hp
  have hu : X.A.units + 1 < cLine := by have := ok.un; omega
  refine PE.imp (pe_dget1 hu ho ha ⟨hbase _, by rw [star_cons hs]; rfl, hl, by rw [star_cons hs]; rfl⟩) fun σ H Q h => ?_
  obtain ⟨F, H₀, M, ρ, re, p⟩ := h
  refine ⟨F, H₀, M, ρ, re, p.bind fun x v H1 s1 r1 p1 => ?_⟩
  cases x with
  | dict kvs =>
    obtain ⟨b, rfl, hd⟩ := isD_of r1
    refine ⟨b, rfl, hd, F, H₀, M, ρ, re.same s1, p1.bind fun y u H2 s2 r2 p2 => ?_⟩
    cases hk : keyK y with
    | none => rw [hk] at p2; exact False.elim p2
    | some κ =>
      rw [hk] at p2
      dsimp only at p2
      split at p2
      · rename_i hall
        obtain ⟨b', ov, e, hg, _, hm⟩ := dget_of hk hall (r1.same s2) r2
        cases e
        refine ⟨ov, hg, p2 _ _ (Same.refl _) ?_⟩
        cases hf : fndG keyK κ kvs with
        | none =>
          rw [hf] at hm
          rw [show ov = none from hm]; rfl
        | some d =>
          rw [hf] at hm
          obtain ⟨v, rfl, q⟩ := hm
          exact q
      · exact False.elim p2
  | _ => exact False.elim p1
theorem sn_get2 (ok : EOk Gr G Φ k L X W) {o a b : Expr} {c d f : CE} {apos cpos : Pos} (hs : notStar a = true) (hs' : notStar b = true) (hp : plainB o = true) (hl : (apos.endLine == cpos.line) = true) (ho : PE X o (tB X.K Gr W c)) (ha : PE X a (tB X.K Gr W d)) (hb : PE X b (tE X.K Gr W f)) :
    PE X (.Call (.Attribute o "get" apos) [a, b] [] cpos) (tE X.K Gr W (cGet2 c d f)) := by
  have hbase : ∀ m, attributeBase o m X.env (eval o X.env) = eval o X.env := by
    cases o <;> first | (intro m; rfl) | cases hp
  have hu : X.A.units + 1 < cLine := by have := ok.un; omega
  refine PE.imp (pe_dget2 hu ho ha hb ⟨hbase _, by rw [star_cons hs, star_cons hs']; rfl, hl, by rw [star_cons hs, star_cons hs']; rfl⟩) fun σ H Q h => ?_
  obtain ⟨F, H₀, M, ρ, re, p⟩ := h
  refine ⟨F, H₀, M, ρ, re, p.bind fun x v H1 s1 r1 p1 => ?_⟩
  cases x with
  | dict kvs =>
    obtain ⟨b, rfl, hd⟩ := isD_of r1
    refine ⟨b, rfl, hd, F, H₀, M, ρ, re.same s1, p1.bind fun y u H2 s2 r2 p2 => ⟨F, H₀, M, ρ, re.same (s1.trans s2), p2.bind fun z w H3 s3 r3 p3 => ?_⟩⟩
    cases hk : keyK y with
    | none => rw [hk] at p3; exact False.elim p3
    | some κ =>
      rw [hk] at p3
      dsimp only at p3
      split at p3
      · rename_i hall
        obtain ⟨b', ov, e, hg, _, hm⟩ := dget_of hk hall (r1.same (s2.trans s3)) (r2.same s3)
        cases e
        refine ⟨ov, hg, p3 _ _ (Same.refl _) ?_⟩
        cases hf : fndG keyK κ kvs with
        | none =>
          rw [hf] at hm
          rw [show ov = none from hm]; exact r3
        | some d =>
          rw [hf] at hm
          obtain ⟨v, rfl, q⟩ := hm
          exact q
      · exact False.elim p3
  | _ => exact False.elim p1
/-! displays -/
def Rpp (K : PySem.W.Frag) (F : Addr → Prop) (H : Hp) : List (PyData × PyData) → List (V × V) → Prop
  | [], ps => ps = []
  | (a, d) :: ds, ps => ∃ u v r, ps = (u, v) :: r ∧ Rb K F H a u ∧ Rp K F H d v ∧ Rpp K F H ds r
theorem Rpp.same {K : PySem.W.Frag} {F : Addr → Prop} {H H' : Hp} (s : Same H H') : ∀ {ds : List (PyData × PyData)} {ps : List (V × V)}, Rpp K F H ds ps → Rpp K F H' ds ps
  | [], _, h => h
  | (a, d) :: ds, _, ⟨u, v, r, e, h1, h2, h3⟩ => ⟨u, v, r, e, h1.same s, h2.same s, Rpp.same s h3⟩
def tPs (K : PySem.W.Frag) (G : Gx) (W : WX) (cs : List (CE × CE)) : St → Hp → (List (V × V) → Hp → Prop) → Prop := fun σ H Q => tR K G W (Rpp K) (cPrs cs) σ H Q
def trsOf (K : PySem.W.Frag) (G : Gx) (W : WX) (cs : List (CE × CE)) : List (TE × TE) := cs.map fun c => (tB K G W c.1, tE K G W c.2)
theorem tPs_run {K : PySem.W.Frag} : ∀ {cs : List (CE × CE)} {σ : St} {H : Hp} {Q : List (V × V) → Hp → Prop}, tPs K Gr W cs σ H Q → tPairs (trsOf K Gr W cs) σ H Q
  | [], σ, H, Q, h => by
    obtain ⟨F, H₀, M, ρ, re, p⟩ := h
    exact p [] H (Same.refl H) rfl
  | (a, d) :: cs, σ, H, Q, h => by
    obtain ⟨F, H₀, M, ρ, re, p⟩ := h
    refine ⟨F, H₀, M, ρ, re, p.bind fun x v H1 s1 r1 p1 => ⟨F, H₀, M, ρ, re.same s1, p1.bind fun y u H2 s2 r2 p2 => ?_⟩⟩
    refine tPs_run ⟨F, H₀, M, ρ, re.same (s1.trans s2), ?_⟩
    refine Post.bind (rep2 := Rpp K) p2 fun ps us H3 s3 r3 p3 => ?_
    exact p3 _ H3 (Same.refl H3) ⟨v, u, us, rfl, r1.same (s2.trans s3), r2.same s3, r3⟩
theorem sn_ps {pos : Pos} : ∀ {ks : List (Option Expr)} {vs : List Expr} {cs : List (CE × CE)}, List.length ks = cs.length → vs.length = cs.length → (∀ (i : Nat) (o : Option Expr) (e : Expr) (c : CE × CE), ks[i]? = some o → vs[i]? = some e → cs[i]? = some c → ∃ x, o = some x ∧ PE X x (tB X.K Gr W c.1) ∧ PE X e (tE X.K Gr W c.2)) →
    PPs X pos ks vs (trsOf X.K Gr W cs)
  | [], [], [], _, _, _ => pps_nil
  | o :: ks, e :: vs, c :: cs, h1, h2, h => by
    obtain ⟨x, rfl, a1, a2⟩ := h 0 o e c rfl rfl rfl
    exact pps_cons a1 a2 (sn_ps (by simpa using h1) (by simpa using h2) fun i o e c g1 g2 g3 => h (i + 1) o e c (by simpa using g1) (by simpa using g2) (by simpa using g3))
  | [], _ :: _, [], _, h2, _ => by simp at h2
  | _ :: _, [], [], h1, _, _ => by simp at h1
  | _ :: _, _ :: _, [], h1, _, _ => by simp at h1
  | [], _, _ :: _, h1, _, _ => by simp at h1
  | _ :: _, [], _ :: _, _, h2, _ => by simp at h2
/-- what the pairs make -/
theorem fold_rel {K : PySem.W.Frag} {F : Addr → Prop} {H : Hp} : ∀ {ps : List (PyData × PyData)} {us : List (V × V)} {acc : List (PyData × PyData)} {ks : List Key} {vs : List V}, allK ps = true → Rpp K F H ps us → acc.map (·.1) = ks.map kD → Rpk K F H acc vs →
    ∃ (κs : List (Key × V)) (js : List Key) (ws : List V), us = κs.map (fun kv => (kV kv.1, kv.2)) ∧ κs.length = ps.length ∧ mergeK (ks.zip vs) κs = js.zip ws ∧ (ps.foldl putK1 acc).map (·.1) = js.map kD ∧ Rpk K F H (ps.foldl putK1 acc) ws
  | [], us, acc, ks, vs, _, r, e, rk => by
    have r : us = [] := r
    subst r
    exact ⟨[], ks, vs, rfl, rfl, rfl, e, rk⟩
  | (a, d) :: ps, us, acc, ks, vs, hall, r, e, rk => by
    obtain ⟨u, v, w, rfl, h1, h2, h3⟩ := r
    unfold allK at hall
    rw [List.all_cons, Bool.and_eq_true] at hall
    obtain ⟨κ, hκ⟩ := Option.isSome_iff_exists.mp hall.1
    have hκ : keyK a = some κ := hκ
    obtain ⟨js, ws, g1, g2, g3⟩ := put_rel keyK_kD κ h2 e rk
    obtain ⟨κs, js2, ws2, q1, q2, q3, q4, q5⟩ := fold_rel (acc := putG keyK kD κ d acc) hall.2 h3 g2 g3
    have e1 : putK1 acc (a, d) = putG keyK kD κ d acc := by
      unfold putK1
      rw [show keyK ((a, d) : PyData × PyData).1 = some κ from hκ]
    refine ⟨(κ, v) :: κs, js2, ws2, ?_, by simp [q2], ?_, ?_, ?_⟩
    · rw [List.map_cons, ← q1, rb_key hκ h1]
    · show mergeK (putK (ks.zip vs) κ v) κs = _
      rw [g1, q3]
    · rw [List.foldl_cons, e1]; exact q4
    · rw [List.foldl_cons, e1]; exact q5
theorem cPrs_len : ∀ {cs : List (CE × CE)} {ρ : En} {ps : List (PyData × PyData)}, cPrs cs ρ = .ok ps → ps.length = cs.length
  | [], _, _, h => by cases h; rfl
  | q :: r, ρ, ps, h => by
    have h : ((q.1 ρ).bind fun k => (q.2 ρ).bind fun d => (cPrs r ρ).bind fun ps => .ok ((k, d) :: ps)) = .ok ps := h
    cases h1 : q.1 ρ with
    | ok k =>
      cases h2 : q.2 ρ with
      | ok d =>
        cases h3 : cPrs r ρ with
        | ok qs => rw [h1, h2, h3] at h; cases h; simp [cPrs_len h3]
        | exc n es => rw [h1, h2, h3] at h; cases h
        | bad => rw [h1, h2, h3] at h; cases h
      | exc n es => rw [h1, h2] at h; cases h
      | bad => rw [h1, h2] at h; cases h
    | exc n es => rw [h1] at h; cases h
    | bad => rw [h1] at h; cases h
theorem RE.with_ {K : PySem.W.Frag} {F M : Addr → Prop} {H₀ H : Hp} {ρ : En} {σ : St} {D : Addr} {ob : HO} (re : RE K Gr F H₀ M ρ σ H) (hn : H D = none) (hm : Mut (some ob)) : RE K Gr (fun a => F a ∨ a = D) (upd H D ob) (Own ρ σ) ρ σ (upd H D ob) := by
  have s := same_upd (o := ob) hn
  have r2 := re.same s
  have up : ∀ a, FF (fun a => F a ∨ a = D) ρ σ a → FF F ρ σ a ∨ H a = none := fun a z => by
    rcases z with (z | z) | z
    · exact .inl (.inl z)
    · subst z; exact .inr hn
    · exact .inl (.inr z)
  refine ⟨r2.len, fun i d e => ?_, fun i d e => ?_, r2.un, fun a o h _ => h, fun a z => ⟨.inr z, fun c => ?_⟩, fun a z => ?_, fun i n ds e => ?_⟩
  · obtain ⟨v, e1, rv⟩ := re.pl i d e
    exact ⟨v, e1, Rp.same (Rp.grow up d v rv) s⟩
  · obtain ⟨a, e1, rv⟩ := re.ow i d e
    exact ⟨a, e1, OwR.same s (rv.grow up)⟩
  · rcases c with c | c
    · exact (re.own a z).2 c
    · subst c
      have m := re.ff (.inr z)
      rw [hn] at m
      exact m
  · rcases z with z | z
    · exact ⟨r2.ff (.inl z), fun c => (re.own a c).2 z⟩
    · subst z
      refine ⟨by rw [upd_same]; exact hm, fun c => ?_⟩
      have m := re.ff (.inr c)
      rw [hn] at m
      exact m
  · obtain ⟨a, C, od, e1, e2, x⟩ := re.ex i n ds e
    exact ⟨a, C, od, e1, e2, x.keep (fun _ _ e => s _ _ e) fun vs r => Rps.same (Rps.grow up ds vs r) s⟩
/-- what is new takes another shape -/
theorem upd_kp {F : Addr → Prop} {H : Hp} {p : Addr} {o o' : HO} (hp : F p) (ho : H p = some o) (hm : Mut (some o)) : Kp F H (upd H p o') := fun b u hb c => by
  by_cases e : b = p
  · subst e
    rw [ho] at hb
    cases hb
    rcases c with c | ⟨xs, c⟩ | ⟨u, xs, c⟩
    · exact absurd hp c
    · subst c; exact False.elim hm
    · subst c; exact False.elim hm
  · rw [upd_ne e]; exact hb
theorem same_upd2 {H H1 : Hp} {p : Addr} {o o' : HO} (hn : H p = none) (s : Same (upd H p o) H1) : Same H (upd H1 p o') := fun a u e => by
  have hne : a ≠ p := ne_of_none e hn
  rw [upd_ne hne]
  exact s a u (by rw [upd_ne hne]; exact e)
theorem sn_disp {ks : List (Option Expr)} {vs : List Expr} {cs : List (CE × CE)} {pos : Pos} (h : PPs X pos ks vs (trsOf X.K Gr W cs)) (hall : ks.all (·.isSome) = true) (hl : ks.length = vs.length) (h0 : ks ≠ []) (h15 : ks.length ≤ 15) :
    PE X (.Dict ks vs pos) (tF X.K Gr W (cDisp cs)) := by
  refine PE.imp (pe_disp h hall hl h0 h15) fun σ H Q hh => ?_
  obtain ⟨F, H₀, M, ρ, re, p⟩ := hh
  intro D hn
  have re2 := re.with_ (ob := .dK []) hn trivial
  refine tPs_run ⟨_, _, _, ρ, re2, ?_⟩
  unfold cDisp at p
  cases hc : cPrs cs ρ with
  | ok ps =>
    rw [hc, R.bind_ok] at p
    split at p
    · rename_i hz
      intro us H2 s2 r2
      have hD : H2 D = some (.dK []) := s2 _ _ upd_same
      obtain ⟨κs, js, ws, q1, q2, q3, q4, q5⟩ := fold_rel (acc := []) (ks := []) (vs := []) hz.1 r2 rfl rfl
      refine ⟨hD, κs, q1, by omega, p _ _ (same_upd2 hn s2) ⟨D, ws, _, rfl, hn, upd_same, .inl ⟨js, q4, by rw [← q3]; rfl⟩, ?_⟩⟩
      have kp : Kp (FF (fun a => F a ∨ a = D) ρ σ) H2 (upd H2 D (.dK (mergeK [] κs))) := upd_kp (.inl (.inr rfl)) hD trivial
      exact Rpk.keep kp (fun a z => by
        rcases z with (z | z) | z
        · exact .inl (.inl z)
        · exact .inr z
        · exact .inl (.inr z)) _ _ q5
    · exact False.elim p
  | exc n es =>
    rw [hc] at p
    intro cls od H' s x
    refine p cls od H' ((same_upd hn).trans s) (x.less fun a z => ?_)
    exact z.imp (fun z => .inl z) id
  | bad => rw [hc] at p; exact p
end
end Pv


/-! all expressions -/
namespace Pv
open PySem PySem.Spec L2
open PyProof.Rows hiding St

theorem obind {α β : Type} {a : Option α} {f : α → Option β} {r : β} (h : (a >>= f) = some r) : ∃ x, a = some x ∧ f x = some r := by
  cases a with
  | none => cases h
  | some x => exact ⟨x, rfl, h⟩
theorem omap {α β : Type} {a : Option α} {f : α → β} {r : β} (h : a.map f = some r) : ∃ x, a = some x ∧ f x = r := by
  cases a with
  | none => cases h
  | some x => exact ⟨x, rfl, Option.some.inj h⟩
def plainT : Expr → Bool
  | .BoolOp _ _ _ => false
  | .IfExp _ _ _ _ => false
  | .UnaryOp .Not _ _ => false
  | _ => true
section
variable {Gr : Gx} {G : GI} {Φ : Ph} {k : Nat} {L : Lc} {X : Cx} {W : WX}
theorem pt_of {e : Expr} {c : CE} (h : PE X e (tB X.K Gr W c)) (he : ∀ whole, isTrue e X.env whole = (do let v ← whole; standAt e.pos; holding [v] (truthy v)) := by intro _; rfl) : PT X e (tTst X.K Gr W (cTst c)) :=
  PT.imp (pt_val h he) fun σ H Q => tTst_E
theorem pe_B {e : Expr} {c : CE} (h : PE X e (tE X.K Gr W c)) : PE X e (tB X.K Gr W c) := PE.imp h fun σ H Q => tB_E
theorem pe_E {e : Expr} {c : CE} (h : PE X e (tF X.K Gr W c)) : PE X e (tE X.K Gr W c) := PE.imp h fun σ H Q => tE_F
theorem hu64 (ok : EOk Gr G Φ k L X W) : X.A.units + 64 < cLine := by have := ok.un; omega
theorem hu128 (ok : EOk Gr G Φ k L X W) : X.A.units + 128 < cLine := by have := ok.un; omega
theorem opc (ok : EOk Gr G Φ k L X W) : ∀ op : CmpOp, OpR X (compareOp op) (rD X.K (cmpF op))
  | .Eq => opd_eq (hu64 ok)
  | .NotEq => opd_ne (hu64 ok)
  | .Lt => opd_lt (hu64 ok)
  | .LtE => opd_le (hu64 ok)
  | .Gt => opd_gt (hu64 ok)
  | .GtE => opd_ge (hu64 ok)
  | .Is => opd_is
  | .IsNot => opd_isnt
  | .In => opd_in (hu128 ok)
  | .NotIn => opd_notIn (hu128 ok)
theorem behind_of {op : CmpOp} {b : Expr} (h : notSet b = true) : behindInMarks op b = false := by
  cases b <;> first | rfl | cases h
def frS (X : Cx) (Gr : Gx) (W : WX) (e : Expr) (fr : Bool) (c : CE) : Prop := PE X e (if fr = true then tF X.K Gr W c else tE X.K Gr W c) ∧ (plainT e = true → PT X e (tTst X.K Gr W (cTst c)))
theorem frS.e {e : Expr} {fr : Bool} {c : CE} (h : frS X Gr W e fr c) : PE X e (tE X.K Gr W c) := by
  obtain ⟨h, _⟩ := h
  cases fr with
  | true => exact pe_E h
  | false => exact h
theorem frS.of {e : Expr} {c : CE} (h : PE X e (tE X.K Gr W c)) (he : ∀ whole, isTrue e X.env whole = (do let v ← whole; standAt e.pos; holding [v] (truthy v)) := by intro _; rfl) : frS X Gr W e false c := ⟨h, fun _ => pt_of (pe_B h) he⟩
theorem frS.ofF {e : Expr} {c : CE} (h : PE X e (tF X.K Gr W c)) (he : ∀ whole, isTrue e X.env whole = (do let v ← whole; standAt e.pos; holding [v] (truthy v)) := by intro _; rfl) : frS X Gr W e true c := ⟨h, fun _ => pt_of (pe_B (pe_E h)) he⟩
end
def argIx (L : Lc) : Expr → Option Nat
  | .Name x _ => L.slot x
  | _ => none
structure Snd (Gr : Gx) (G : GI) (Φ : Ph) (n : Nat) : Prop where
  E : ∀ {k : Nat} {L : Lc} {X : Cx} {W : WX}, EOk Gr G Φ k L X W → ∀ (e : Expr) (fr : Bool) (c : CE), cE G Φ n L e = some (fr, c) → frS X Gr W e fr c
  B : ∀ {k : Nat} {L : Lc} {X : Cx} {W : WX}, EOk Gr G Φ k L X W → ∀ (e : Expr) (c : CE), cB G Φ n L e = some c → PE X e (tB X.K Gr W c) ∧ (plainT e = true → PT X e (tTst X.K Gr W (cTst c))) ∧ PE X e (tA1 X.K Gr W c (argIx L e))
  Es : ∀ {k : Nat} {L : Lc} {X : Cx} {W : WX}, EOk Gr G Φ k L X W → ∀ (es : List Expr) (cs : List CE), cEs G Φ n L es = some cs → PA X es (tEs X.K Gr W (cAll cs))
  As : ∀ {k : Nat} {L : Lc} {X : Cx} {W : WX}, EOk Gr G Φ k L X W → ∀ (es : List Expr) (cs : List CE) (os : List (Option Nat)), cAs G Φ n L es = some (cs, os) → es.all notStar = true → PA X es (tAs X.K Gr W cs os) ∧ os.length = es.length
  Ps : ∀ {k : Nat} {L : Lc} {X : Cx} {W : WX}, EOk Gr G Φ k L X W → ∀ (ks : List (Option Expr)) (vs : List Expr) (cs : List (CE × CE)), cPs G Φ n L ks vs = some cs → (∀ pos, PPs X pos ks vs (trsOf X.K Gr W cs)) ∧ ks.all (·.isSome) = true ∧ ks.length = vs.length
  O : ∀ {k : Nat} {L : Lc} {X : Cx} {W : WX}, EOk Gr G Φ k L X W → ∀ (o : Option Expr) (c : Option CE), cO G Φ n L o = some c → PO X o (tO X.K Gr W c)
  Bo : ∀ {k : Nat} {L : Lc} {X : Cx} {W : WX}, EOk Gr G Φ k L X W → ∀ (op : BoolOp) (es : List Expr) (c : CE) (pos : Pos), cBo G Φ n L op es = some c → PE X (.BoolOp op es pos) (tE X.K Gr W c)
  T : ∀ {k : Nat} {L : Lc} {X : Cx} {W : WX}, EOk Gr G Φ k L X W → ∀ (e : Expr) (t : CT), cT G Φ n L e = some t → PT X e (tTst X.K Gr W t)
  To : ∀ {k : Nat} {L : Lc} {X : Cx} {W : WX}, EOk Gr G Φ k L X W → ∀ (op : BoolOp) (es : List Expr) (t : CT) (pos : Pos), cTo G Φ n L op es = some t → PW X (.BoolOp op es pos) (tTst X.K Gr W t)
  I : ∀ {k : Nat} {L : Lc} {X : Cx} {W : WX}, EOk Gr G Φ k L X W → ∀ (lent : Bool) (tg e : Expr) (c : CI), cI G Φ n L lent e = some c → PI X tg e (tIt X.K Gr W lent c)
  I0 : ∀ {k : Nat} {L : Lc} {X : Cx} {W : WX}, EOk Gr G Φ k L X W → ∀ (lent : Bool) (tg e : Expr) (c : CI), cI0 G Φ n L lent e = some c → PI X tg e (tIt X.K Gr W lent c)
theorem snd0 {Gr : Gx} {G : GI} {Φ : Ph} : Snd Gr G Φ 0 where
  E := fun ok e fr c h => by cases h
  B := fun ok e c h => by cases h
  Es := fun ok e c h => by cases h
  As := fun ok e c os h => by cases h
  Ps := fun ok ks vs cs h => by cases h
  O := fun ok e c h => by cases h
  Bo := fun ok op es c pos h => by cases h
  T := fun ok e c h => by cases h
  To := fun ok op es c pos h => by cases h
  I := fun ok l tg e c h => by cases h
  I0 := fun ok l tg e c h => by cases h
section
variable {Gr : Gx} {G : GI} {Φ : Ph} {n k : Nat} {L : Lc} {X : Cx} {W : WX}
theorem E_name (S : Snd Gr G Φ n) (ok : EOk Gr G Φ k L X W) {x : Str} {p : Pos} {fr : Bool} {c : CE} (h : cE G Φ (n + 1) L (.Name x p) = some (fr, c)) : frS X Gr W (.Name x p) fr c := by
  have h : (match L.slot x with | some i => some (false, cVar i) | none => if L.glob x = true then (G.cons.lookup x).map fun d => (false, cK d) else none) = some (fr, c) := h
  split at h
  · rename_i i hi
    cases h
    exact .of (sn_var ok hi)
  · split at h
    · rename_i hg
      obtain ⟨d, h1, h2⟩ := omap h
      cases h2
      exact .of (sn_con ok hg h1)
    · cases h
theorem E_const (S : Snd Gr G Φ n) (ok : EOk Gr G Φ k L X W) {v : Const} {j : Nat} {p : Pos} {fr : Bool} {c : CE} (h : cE G Φ (n + 1) L (.Constant v j p) = some (fr, c)) : frS X Gr W (.Constant v j p) fr c := by
  cases v with
  | int i => cases h; exact .of (sn_k pe_int fun _ _ => rfl)
  | bool i => cases h; exact .of (sn_k pe_bl fun _ _ => rfl)
  | str i => cases h; exact .of (sn_k pe_str fun _ _ => rfl)
  | none => cases h; exact .of (sn_k pe_non fun _ _ => rfl)
  | _ => cases h
theorem E_bin (S : Snd Gr G Φ n) (ok : EOk Gr G Φ k L X W) {a b : Expr} {op : Operator} {p : Pos} {fr : Bool} {c : CE} (h : cE G Φ (n + 1) L (.BinOp a op b p) = some (fr, c)) : frS X Gr W (.BinOp a op b p) fr c := by
  have rest : ∀ {g : PyData → PyData → R PyData}, OpR X (binaryOp op) (rD X.K g) → (cB G Φ n L a >>= fun ca => cB G Φ n L b >>= fun cb => some (true, c2 g ca cb)) = some (fr, c) → frS X Gr W (.BinOp a op b p) fr c := by
    intro g ho h
    obtain ⟨ca, h1, h⟩ := obind h
    obtain ⟨cb, h2, h⟩ := obind h
    cases h
    exact .ofF (PE.imp (pe_op ho (S.B ok a ca h1).1 (S.B ok b cb h2).1) fun σ H Q => tF_c2)
  cases op with
  | Mult =>
    have h : (cE G Φ n L a >>= fun x => cB G Φ n L b >>= fun cb => if x.1 = true then some (true, c2 mulD x.2 cb) else some (true, c2 mulI x.2 cb)) = some (fr, c) := h
    obtain ⟨⟨fa, ca⟩, h1, h⟩ := obind h
    obtain ⟨cb, h2, h⟩ := obind h
    have ea := S.E ok a fa ca h1
    have eb := (S.B ok b cb h2).1
    cases fa with
    | true =>
      cases h
      exact .ofF (PE.imp (pe_op opd_mul ea.1 eb) fun σ H Q => tF_mulD)
    | false =>
      cases h
      exact .ofF (PE.imp (pe_op opd_mul (pe_B ea.e) eb) fun σ H Q => tF_mulI)
  | Add => exact rest opd_add h
  | Sub => exact rest opd_sub h
  | FloorDiv => exact rest opd_fdiv h
  | Mod => exact rest opd_mod h
  | Pow => exact rest opd_pow h
  | _ => cases h
theorem E_un (S : Snd Gr G Φ n) (ok : EOk Gr G Φ k L X W) {a : Expr} {op : UnaryOp} {p : Pos} {fr : Bool} {c : CE} (h : cE G Φ (n + 1) L (.UnaryOp op a p) = some (fr, c)) : frS X Gr W (.UnaryOp op a p) fr c := by
  cases op with
  | USub =>
    obtain ⟨ca, h1, h⟩ := obind (show (cB G Φ n L a >>= fun ca => some (false, c1 negD ca)) = some (fr, c) from h)
    cases h
    exact .of (pe_E (PE.imp (pe_un opd_neg (S.B ok a ca h1).1) fun σ H Q => tF_c1))
  | Not =>
    obtain ⟨ca, h1, h⟩ := obind (show (cB G Φ n L a >>= fun ca => some (false, cNotV ca)) = some (fr, c) from h)
    cases h
    exact ⟨PE.imp (pe_not (S.B ok a ca h1).1) fun σ H Q => tE_notV, fun z => by cases z⟩
  | _ => cases h
theorem E_cmp (S : Snd Gr G Φ n) (ok : EOk Gr G Φ k L X W) {a : Expr} {ops : List CmpOp} {bs : List Expr} {p : Pos} {fr : Bool} {c : CE} (h : cE G Φ (n + 1) L (.Compare a ops bs p) = some (fr, c)) : frS X Gr W (.Compare a ops bs p) fr c := by
  match ops, bs, h with
  | [op], [b], h =>
    have h : (if notSet b = true then (cB G Φ n L a >>= fun ca => cB G Φ n L b >>= fun cb => some (false, c2 (cmpF op) ca cb)) else none) = some (fr, c) := h
    split at h
    · rename_i hb
      obtain ⟨ca, h1, h⟩ := obind h
      obtain ⟨cb, h2, h⟩ := obind h
      cases h
      have ea := (S.B ok a ca h1).1
      have eb := (S.B ok b cb h2).1
      exact ⟨PE.imp (pe_cmpR (opc ok op) ea eb (behind_of hb)) fun σ H Q => tE_c2, fun _ => PT.imp (pt_cmpR (opc ok op) ea eb (behind_of hb)) fun σ H Q h => tE_c2 (tB_E (tTst_E h))⟩
    · cases h
  | [op, op'], [b, d], h =>
    have h : (if (notSet b && notSet d) = true then (cB G Φ n L a >>= fun ca => cB G Φ n L b >>= fun cb => cB G Φ n L d >>= fun cc => some (false, cCh (cmpF op) (cmpF op') ca cb cc)) else none) = some (fr, c) := h
    split at h
    · rename_i hb
      rw [Bool.and_eq_true] at hb
      obtain ⟨ca, h1, h⟩ := obind h
      obtain ⟨cb, h2, h⟩ := obind h
      obtain ⟨cc, h3, h⟩ := obind h
      cases h
      have ea := (S.B ok a ca h1).1
      have eb := (S.B ok b cb h2).1
      have ec := (S.B ok d cc h3).1
      have hm : lastMarks [op, op'] [b, d] = false := behind_of hb.2
      exact ⟨PE.imp (pe_chain (opc ok op) (opc ok op') ea eb ec hm) fun σ H Q => tE_ch, fun _ => PT.imp (pt_chain (opc ok op) (opc ok op') ea eb ec hm) fun σ H Q h => tE_ch (tB_E (tTst_E h))⟩
    · cases h
theorem E_if (S : Snd Gr G Φ n) (ok : EOk Gr G Φ k L X W) {t a b : Expr} {p : Pos} {fr : Bool} {c : CE} (h : cE G Φ (n + 1) L (.IfExp t a b p) = some (fr, c)) : frS X Gr W (.IfExp t a b p) fr c := by
  obtain ⟨ct, h1, h⟩ := obind (show (cT G Φ n L t >>= fun ct => cE G Φ n L a >>= fun ca => cE G Φ n L b >>= fun cb => some (false, cIfE ct ca.2 cb.2)) = some (fr, c) from h)
  obtain ⟨⟨fa, ca⟩, h2, h⟩ := obind h
  obtain ⟨⟨fb, cb⟩, h3, h⟩ := obind h
  cases h
  exact ⟨PE.imp (pe_ifExp (S.T ok t ct h1) (S.E ok a fa ca h2).e (S.E ok b fb cb h3).e) fun σ H Q => tE_ifE, fun z => by cases z⟩
def slc (e : Expr) : Bool := match e with | .Slice _ _ _ _ => true | _ => false
theorem E_ix (S : Snd Gr G Φ n) (ok : EOk Gr G Φ k L X W) {v i : Expr} {p : Pos} {fr : Bool} {c : CE} (hi : PlainIx i) (h : (cB G Φ n L v >>= fun cv => cB G Φ n L i >>= fun ci => some (false, c2 ixD cv ci)) = some (fr, c)) : frS X Gr W (.Subscript v i p) fr c := by
  obtain ⟨cv, h1, h⟩ := obind h
  obtain ⟨ci, h2, h⟩ := obind h
  cases h
  exact .of (PE.imp (pe_ix (opd_ix (hu64 ok)) (S.B ok v cv h1).1 (S.B ok i ci h2).1 hi) fun σ H Q => tE_ix)
theorem E_sub (S : Snd Gr G Φ n) (ok : EOk Gr G Φ k L X W) {v i : Expr} {p : Pos} {fr : Bool} {c : CE} (h : cE G Φ (n + 1) L (.Subscript v i p) = some (fr, c)) : frS X Gr W (.Subscript v i p) fr c := by
  cases i with
  | Slice lo hi st sp =>
    cases st with
    | none =>
      obtain ⟨cv, h1, h⟩ := obind (show (cB G Φ n L v >>= fun cv => cO G Φ n L lo >>= fun cl => cO G Φ n L hi >>= fun ch => some (true, cSl cv cl ch)) = some (fr, c) from h)
      obtain ⟨cl, h2, h⟩ := obind h
      obtain ⟨ch, h3, h⟩ := obind h
      cases h
      exact .ofF (PE.imp (pe_slice opd_sl (S.B ok v cv h1).1 (S.O ok lo cl h2) (S.O ok hi ch h3)) fun σ H Q => tF_sl)
    | some z =>
      have h5 : (if revSl lo hi z = true then (cB G Φ n L v >>= fun cv => some (true, c1 revD cv)) else none) = some (fr, c) := h
      clear h
      split at h5
      · rename_i hr
        obtain ⟨cv, h1, h5⟩ := obind h5
        cases h5
        unfold revSl at hr
        split at hr
        · have hr := of_decide_eq_true hr
          subst hr
          exact .ofF (PE.imp (pe_back (S.B ok v cv h1).1) fun σ H Q => tF_c1)
        · cases hr
      · cases h5
  | _ => exact E_ix S ok (fun _ _ => rfl) h

theorem E_tup (S : Snd Gr G Φ n) (ok : EOk Gr G Φ k L X W) {es : List Expr} {j : Nat} {p : Pos} {fr : Bool} {c : CE} (h : cE G Φ (n + 1) L (.Tuple es j p) = some (fr, c)) : frS X Gr W (.Tuple es j p) fr c := by
  obtain ⟨cs, h1, h⟩ := obind (show (cEs G Φ n L es >>= fun cs => some (false, cTup cs)) = some (fr, c) from h)
  cases h
  exact .of (PE.imp (pe_tup (S.Es ok es cs h1)) fun σ H Q => tE_tup)
theorem E_lst (S : Snd Gr G Φ n) (ok : EOk Gr G Φ k L X W) {es : List Expr} {p : Pos} {fr : Bool} {c : CE} (h : cE G Φ (n + 1) L (.List es p) = some (fr, c)) : frS X Gr W (.List es p) fr c := by
  obtain ⟨cs, h1, h⟩ := obind (show (cEs G Φ n L es >>= fun cs => some (true, cLst cs)) = some (fr, c) from h)
  cases h
  exact .ofF (PE.imp (pe_lst (S.Es ok es cs h1)) fun σ H Q => tF_lst)
theorem E_dict (S : Snd Gr G Φ n) (ok : EOk Gr G Φ k L X W) {ks : List (Option Expr)} {vs : List Expr} {p : Pos} {fr : Bool} {c : CE} (h : cE G Φ (n + 1) L (.Dict ks vs p) = some (fr, c)) : frS X Gr W (.Dict ks vs p) fr c := by
  match ks, vs, h with
  | [], [], h =>
    cases h
    exact .ofF sn_dic0
  | k1 :: ks, v1 :: vs, h =>
    have h5 : (if ks.length ≤ 14 then (cPs G Φ n L (k1 :: ks) (v1 :: vs) >>= fun cs => some (true, cDisp cs)) else none) = some (fr, c) := h
    clear h
    split at h5
    · rename_i hz
      obtain ⟨cs, h1, h5⟩ := obind h5
      cases h5
      obtain ⟨a1, a2, a3⟩ := S.Ps ok _ _ cs h1
      exact .ofF (sn_disp (a1 p) a2 a3 (by simp) (by simpa using hz))
    · cases h5
theorem E_attr (S : Snd Gr G Φ n) (ok : EOk Gr G Φ k L X W) {o : Expr} {f : Str} {p : Pos} {fr : Bool} {c : CE} (h : cE G Φ (n + 1) L (.Attribute o f p) = some (fr, c)) : frS X Gr W (.Attribute o f p) fr c := by
  obtain ⟨i, h1, h⟩ := omap (show ((exnOf L o).map fun i => (false, cFld G i f)) = some (fr, c) from h)
  cases h
  exact .of (sn_fld ok h1)
/-- the parts of a comprehension -/
def lcParts (G : GI) (Φ : Ph) (n : Nat) (L : Lc) (elt tg it : Expr) (ifs : List Expr) (sc : Scope) : Option (Bool × CE) :=
  cI G Φ n L true it >>= fun ci =>
    if blkC L.N { kind := .function, names := L.nm, isGenerator := false, isCoroutine := false } sc (ownOf L.N sc.names) = true then
      tgOf { N := L.N, nm := sc.names, calm := true, en := none } tg >>= fun g =>
        if (g.ixs.all fun i => decide (i ∈ (ownOf L.N sc.names).map (·.2))) = true then
          (match ifs with | [] => some tYesC | [c] => cT G Φ n { N := L.N, nm := sc.names, calm := true, en := none } c | _ => none) >>= fun t =>
            cE G Φ n { N := L.N, nm := sc.names, calm := true, en := none } elt >>= fun ce => some (true, cComp ci ((ownOf L.N sc.names).map (·.2)) g t ce.2)
        else none
    else none
theorem tTst_yes {K : PySem.W.Frag} {σ : St} {H : Hp} {Q : Bool → Hp → Prop} (h : tTst K Gr W tYesC σ H Q) : tYes σ H Q := by
  obtain ⟨F, H₀, M, ρ, re, p⟩ := h
  exact p true H (Same.refl H) rfl
theorem PTs.imp {ifs : List Expr} {t t' : TT} (h : PTs X ifs t) (hm : ∀ σ H Q, t' σ H Q → t σ H Q) : PTs X ifs t' := ⟨fun pins s σ H Q I q => h.run pins s σ H Q I (hm σ H Q q)⟩
theorem lc_parts (S : Snd Gr G Φ n) (ok : EOk Gr G Φ k L X W) (hcalm : L.calm = true) {elt tg it : Expr} {ifs : List Expr} {sc : Scope} {fr : Bool} {c : CE} (h : lcParts G Φ n L elt tg it ifs sc = some (fr, c)) :
    ∃ ci g t e, fr = true ∧ c = cComp ci ((ownOf L.N sc.names).map (·.2)) g t e ∧ (∀ i ∈ g.ixs, i ∈ (ownOf L.N sc.names).map (·.2)) ∧ PI X tg it (tIt X.K Gr W true ci) ∧ BlkOk X.N X.env.scope sc (ownOf L.N sc.names) ∧
      (∀ (s : Shared) (H : Hp) (C : Addr) (cl : List (Str × Addr)) (fp : List Addr), PG (X.blk s H sc (compEnvC sc cl C X.env) fp) tg (tTg X.K g)) ∧
      (∀ (s : Shared) (H : Hp) (C : Addr) (cl : List (Str × Addr)) (fp : List Addr), PTs (X.blk s H sc (compEnvC sc cl C X.env) fp) ifs (tTst X.K Gr W0 t)) ∧
      (∀ (s : Shared) (H : Hp) (C : Addr) (cl : List (Str × Addr)) (fp : List Addr), PE (X.blk s H sc (compEnvC sc cl C X.env) fp) elt (tE X.K Gr W0 e)) := by
  unfold lcParts at h
  obtain ⟨ci, h1, h⟩ := obind h
  split at h
  · rename_i hb
    obtain ⟨g, h2, h⟩ := obind h
    split at h
    · rename_i hg
      obtain ⟨t, h3, h⟩ := obind h
      obtain ⟨ce, h4, h⟩ := obind h
      cases h
      have bo := blk_of ok.nm hb
      refine ⟨ci, g, t, ce.2, rfl, rfl, fun i hi => ?_, S.I ok true tg it ci h1, bo, fun s H C cl fp => ?_, fun s H C cl fp => ?_, fun s H C cl fp => ?_⟩
      · exact of_decide_eq_true (List.all_eq_true.mp hg i hi)
      · have ok' := ok.blk hcalm (sc := sc) (s := s) (H := H) (C := C) (cl := cl) (fp := fp)
        exact tg_pg ok'.nm (ok'.calm rfl) h2
      · have ok' := ok.blk hcalm (sc := sc) (s := s) (H := H) (C := C) (cl := cl) (fp := fp)
        match ifs, h3 with
        | [], h3 => cases h3; exact PTs.imp pts_nil fun σ H Q => tTst_yes
        | [c], h3 => exact pts_one (S.T ok' c t h3)
      · have ok' := ok.blk hcalm (sc := sc) (s := s) (H := H) (C := C) (cl := cl) (fp := fp)
        exact (S.E ok' elt ce.1 ce.2 h4).e
    · cases h
  · cases h
theorem E_lc (S : Snd Gr G Φ n) (ok : EOk Gr G Φ k L X W) {elt : Expr} {gs : List Comprehension} {sc : Scope} {p : Pos} {fr : Bool} {c : CE} (h : cE G Φ (n + 1) L (.ListComp elt gs sc p) = some (fr, c)) : frS X Gr W (.ListComp elt gs sc p) fr c := by
  match gs, h with
  | [⟨tg, it, ifs, ia⟩], h =>
    have h5 : (if ia = 0 ∧ (L.calm && notSet it) = true then lcParts G Φ n L elt tg it ifs sc else none) = some (fr, c) := h
    clear h
    split at h5
    · rename_i hc
      obtain ⟨rfl, hc⟩ := hc
      rw [Bool.and_eq_true] at hc
      obtain ⟨ci, g, t, e, rfl, rfl, a1, a2, a3, a4, a5, a6⟩ := lc_parts S ok hc.1 h5
      exact .ofF (PE.imp (pe_lc (ok.calm hc.1) ok.nm.nodup a2 a3 a4 a5 a6 (folded_of hc.2)) fun σ H Q => tF_comp a1)
    · cases h5
/-! calls -/
theorem all1 {a : Expr} (h : [a].all notStar = true) : notStar a = true := by simpa using h
theorem bi_call {a : Expr} {c : CE} {x : Str} {id : String} {g : PyData → R PyData} {p pos : Pos} (ok : EOk Gr G Φ k L X W) (hr : CallR X (.builtin id) (rC1 X.K g)) (hg : L.glob x = true) (hm : x ∈ biNames) (hv : bootBuiltins x = some (.builtin id)) (hs : notStar a = true) (ha : PE X a (tB X.K Gr W c)) :
    PE X (.Call (.Name x p) [a] [] pos) (tF X.K Gr W (c1 g c)) := by
  have gl := glob_ok ok.nm hg
  refine PE.imp (pe_callB hr gl.gl (ok.gl.bi _ hm) hv (pa_cons ha pa_nil (star_cons hs)) gl.nn gl.d1 (star_cons hs) rfl) fun σ H Q h => ?_
  obtain ⟨F, H₀, M, ρ, re, p⟩ := h
  refine ⟨F, H₀, M, ρ, re, p.bind fun x v H1 s1 r1 p1 => ?_⟩
  obtain ⟨r, e, q⟩ := p1.ok_of
  exact ⟨v, rfl, _, x, r, (re.same s1).trk, r1, e, fun w H' s' n => q w H' s' (n.older s1)⟩
theorem ty_call {a : Expr} {c : CE} {x : Str} {id : String} {g : PyData → R PyData} {p pos : Pos} (ok : EOk Gr G Φ k L X W) (hr : CallR X (.type id) (rC1 X.K g)) (hg : L.glob x = true) (hm : x ∈ biNames) (hv : bootBuiltins x = some (.type id)) (hs : notStar a = true) (ha : PE X a (tB X.K Gr W c)) :
    PE X (.Call (.Name x p) [a] [] pos) (tF X.K Gr W (c1 g c)) := by
  have gl := glob_ok ok.nm hg
  refine PE.imp (pe_callTy hr gl.gl (ok.gl.bi _ hm) hv (pa_cons ha pa_nil (star_cons hs)) gl.nn gl.d1 (star_cons hs) rfl) fun σ H Q h => ?_
  obtain ⟨F, H₀, M, ρ, re, p⟩ := h
  refine ⟨F, H₀, M, ρ, re, p.bind fun x v H1 s1 r1 p1 => ?_⟩
  obtain ⟨r, e, q⟩ := p1.ok_of
  exact ⟨v, rfl, _, x, r, (re.same s1).trk, r1, e, fun w H' s' n => q w H' s' (n.older s1)⟩
theorem bi1_call {a : Expr} {c : CE} {x : Str} {fr : Bool} {g : PyData → R PyData} {p pos : Pos} (ok : EOk Gr G Φ k L X W) (h : bi1 L.calm x = some (fr, g)) (hg : L.glob x = true) (hs : notStar a = true) (ha : PE X a (tB X.K Gr W c)) :
    frS X Gr W (.Call (.Name x p) [a] [] pos) fr (c1 g c) := by
  have both : PE X (.Call (.Name x p) [a] [] pos) (tF X.K Gr W (c1 g c)) → frS X Gr W (.Call (.Name x p) [a] [] pos) fr (c1 g c) := fun hh => by
    cases fr with
    | true => exact .ofF hh
    | false => exact .of (pe_E hh)
  apply both
  unfold bi1 at h
  split at h
  · rename_i e; subst e; cases h; exact bi_call ok opd_len hg (by decide) (by decide +kernel) hs ha
  split at h
  · rename_i e
    subst e
    have h : some (true, if L.calm = true then listC else listD) = some (fr, g) := h
    cases h
    by_cases hcl : L.calm = true
    · rw [if_pos hcl]; exact ty_call ok (opd_listC (ok.calm hcl)) hg (by decide) (by decide +kernel) hs ha
    · rw [if_neg hcl]; exact ty_call ok opd_list hg (by decide) (by decide +kernel) hs ha
  split at h
  · rename_i e; subst e; cases h; exact ty_call ok opd_tuple hg (by decide) (by decide +kernel) hs ha
  split at h
  · rename_i e; subst e; cases h; exact ty_call ok opd_int hg (by decide) (by decide +kernel) hs ha
  split at h
  · cases h
  rename_i hcalm
  have hc := ok.calm (by simpa using hcalm)
  split at h
  · rename_i e; subst e; cases h; exact bi_call ok (opd_sorted (hu128 ok)) hg (by decide) (by decide +kernel) hs ha
  split at h
  · rename_i e; subst e; cases h; exact bi_call ok (opd_sum hc) hg (by decide) (by decide +kernel) hs ha
  split at h
  · rename_i e; subst e; cases h; exact bi_call ok (opd_maxL hc) hg (by decide) (by decide +kernel) hs ha
  split at h
  · rename_i e; subst e; cases h; exact bi_call ok (opd_minL hc) hg (by decide) (by decide +kernel) hs ha
  split at h
  · rename_i e; subst e; cases h; exact bi_call ok opd_abs hg (by decide) (by decide +kernel) hs ha
  · cases h
theorem bi2_call {a b : Expr} {c d : CE} {x : Str} {g : PyData → PyData → R PyData} {p pos : Pos} (ok : EOk Gr G Φ k L X W) (h : bi2 L.calm x = some g) (hg : L.glob x = true) (hs : notStar a = true) (hs' : notStar b = true) (ha : PE X a (tB X.K Gr W c)) (hb : PE X b (tB X.K Gr W d)) :
    PE X (.Call (.Name x p) [a, b] [] pos) (tE X.K Gr W (c2 g c d)) := by
  have gl := glob_ok ok.nm hg
  have go : ∀ {id : String}, CallR X (.builtin id) (rC2 X.K g) → x ∈ biNames → bootBuiltins x = some (.builtin id) → PE X (.Call (.Name x p) [a, b] [] pos) (tE X.K Gr W (c2 g c d)) := by
    intro id hr hm hv
    refine PE.imp (pe_callB hr gl.gl (ok.gl.bi _ hm) hv (pa_cons ha (pa_cons hb pa_nil (star_cons hs')) (star_cons hs)) gl.nn gl.d1 (star_cons hs) (by rw [star_cons hs']; rfl)) fun σ H Q h => ?_
    obtain ⟨F, H₀, M, ρ, re, p⟩ := tE_F h
    refine ⟨F, H₀, M, ρ, re, p.bind fun x v H1 s1 r1 p1 => ⟨F, H₀, M, ρ, re.same s1, p1.bind fun y u H2 s2 r2 p2 => ?_⟩⟩
    obtain ⟨r, e, q⟩ := p2.ok_of
    exact ⟨v, u, rfl, _, x, y, r, (re.same (s1.trans s2)).trk, r1.same s2, r2, e, fun w H' s' n => q w H' s' (n.older (s1.trans s2))⟩
  unfold bi2 at h
  split at h
  · cases h
  rename_i hcalm
  have hc := ok.calm (by simpa using hcalm)
  split at h
  · rename_i e; subst e; cases h; exact go (opd_max2 hc) (by decide) (by decide +kernel)
  split at h
  · rename_i e; subst e; cases h; exact go (opd_min2 hc) (by decide) (by decide +kernel)
  · cases h
theorem tB_list {K : PySem.W.Frag} {F : Addr → Prop} {H : Hp} {ds : List PyData} {x : V} (h : Rb K F H (.list ds) x) : tyV K "list" x H := by
  obtain ⟨a, vs, rfl, q, _⟩ := h
  rcases q with q | ⟨u, q⟩
  · exact .inl ⟨rfl, vs, .inl (.inl q)⟩
  · exact .inl ⟨rfl, vs, .inl (.inr ⟨u, q⟩)⟩
theorem me1_call {o a : Expr} {m : Str} {g : PyData → PyData → R PyData} {c d : CE} {apos cpos : Pos} (ok : EOk Gr G Φ k L X W) (h : me1 m = some g) (hs : notStar a = true) (hp : plainB o = true) (hl : (apos.endLine == cpos.line) = true) (ho : PE X o (tB X.K Gr W c)) (ha : PE X a (tB X.K Gr W d)) :
    PE X (.Call (.Attribute o m apos) [a] [] cpos) (tE X.K Gr W (cMe g c d)) := by
  have hbase : ∀ m, attributeBase o m X.env (eval o X.env) = eval o X.env := by
    cases o <;> first | (intro m; rfl) | cases hp
  have key : ∀ {id : String}, Slot "list" m id → typeOf (.builtin id) = pure (.type "method_descriptor") → MtR X id (rM X.K g) → PE X (.Call (.Attribute o m apos) [a] [] cpos) (tE X.K Gr W (cMe g c d)) := by
    intro id sl ty mt
    refine PE.imp (pe_bm PySem.F.plainAttrs_list sl ty mt ho (pa_cons ha pa_nil (star_cons hs)) (hbase m) (by rw [star_cons hs]; rfl) hl (star_cons hs) rfl) fun σ H Q h => ?_
    obtain ⟨F, H₀, M, ρ, re, p⟩ := tE_F h
    refine ⟨F, H₀, M, ρ, re, p.bind fun x v H1 s1 r1 p1 => ?_⟩
    cases x with
    | list ds =>
      refine ⟨tB_list r1, F, H₀, M, ρ, re.same s1, p1.bind fun y u H2 s2 r2 p2 => ?_⟩
      obtain ⟨r, e, q⟩ := p2.ok_of
      exact ⟨u, rfl, _, _, y, r, (re.same (s1.trans s2)).trk, r1.same s2, r2, e, fun w H' s' n => q w H' s' (n.older (s1.trans s2))⟩
    | _ => exact False.elim p1
  unfold me1 at h
  split at h
  · rename_i e; subst e; cases h; exact key PySem.F.slot_list_count PySem.F.type_list_count (mtd_count (hu128 ok))
  split at h
  · rename_i e; subst e; cases h; exact key PySem.F.slot_list_index PySem.F.type_list_index (mtd_index (hu128 ok))
  · cases h

theorem isTys_pe (ok : EOk Gr G Φ k L X W) {a b : Expr} {c : CE} {ts : List String} {p pos : Pos} (h : isTys L b = some ts) (hg : L.glob "isinstance" = true) (hs : notStar a = true) (ha : PE X a (tB X.K Gr W c)) : PE X (.Call (.Name "isinstance" p) [a, b] [] pos) (tE X.K Gr W (c1 (isiD ts) c)) := by
  cases b with
  | Tuple es kk tp =>
    have h : (if es.length ≤ 100 then (es.mapM (tysOf L)).map fun l => l.flatten else none) = some ts := h
    split at h
    · rename_i hz
      obtain ⟨ls, h1, h2⟩ := omap h
      subst h2
      exact sn_isiN ok hg hs ha h1 hz
    · cases h
  | Name y py => exact sn_isi1 ok hg hs ha h
  | _ => cases h
def callBi (G : GI) (Φ : Ph) (n : Nat) (L : Lc) (x : Str) : List Expr → Option (Bool × CE)
  | [a] => (match rgOf L x a with
    | some b => (cB G Φ n L b >>= fun cb => some (decide (x = ("list" : Str)), cRgS (decide (x = ("list" : Str))) cb))
    | none => (bi1 L.calm x >>= fun y => cB G Φ n L a >>= fun ca => some (y.1, c1 y.2 ca)))
  | [a, b] => if x = ("isinstance" : Str) then (match exnOf L a with
    | some i => (exTys G L b).map fun ts => (false, cIsE G i ts)
    | none => (isTys L b >>= fun ts => cB G Φ n L a >>= fun ca => some (false, c1 (isiD ts) ca)))
    else (bi2 L.calm x >>= fun g => cB G Φ n L a >>= fun ca => cB G Φ n L b >>= fun cb => some (false, c2 g ca cb))
  | _ => none
theorem rgV_rangeL {K : PySem.W.Frag} {F : Addr → Prop} {H : Hp} (b : Int) : Rps K F H (rangeL 0 b) (rgV 0 b) := by
  unfold rangeL rgV
  generalize List.range (b - 0).toNat = l
  induction l with
  | nil => rfl
  | cons a l ih => exact ⟨_, _, rfl, rfl, ih⟩
theorem rg_call (S : Snd Gr G Φ n) (ok : EOk Gr G Φ k L X W) {x : Str} {p pos : Pos} {a b : Expr} {cb : CE} {fr : Bool} {c : CE} (hg : L.glob x = true) (hb : rgOf L x a = some b) (h2 : cB G Φ n L b = some cb) (h9 : some (decide (x = ("list" : Str)), cRgS (decide (x = ("list" : Str))) cb) = some (fr, c)) : frS X Gr W (.Call (.Name x p) [a] [] pos) fr c := by
  have e : ∃ py pp, a = .Call (.Name "range" py) [b] [] pp ∧ (x = ("tuple" : Str) ∨ x = ("list" : Str)) ∧ L.glob "range" = true ∧ L.calm = true ∧ notStar b = true := by
    unfold rgOf at hb
    split at hb
    · split at hb
      · rename_i hh
        cases hb
        obtain ⟨h1, rfl, h3, h4, h5⟩ := hh
        exact ⟨_, _, rfl, h1, h3, h4, h5⟩
      · cases hb
    · cases hb
  obtain ⟨py, pp, rfl, hx, hr, hcl, hs⟩ := e
  have gr := glob_ok ok.nm hr
  have gx := glob_ok ok.nm hg
  have pr := prg_1 (p := py) (pos := pp) gr.gl (ok.gl.bi _ (by decide)) (S.B ok b cb h2).1 (star_cons hs)
  have go : ∀ {l : Bool} {σ : St} {H : Hp} {Q : VK}, tF X.K Gr W (cRgS l cb) σ H Q → tRg1 (tB X.K Gr W cb) σ H fun i j H1 => RgOk i j ∧ ∀ q, H1 q = none → Q (.ref q) (upd H1 q (if l = true then .lst (rgV i j) else .tup (rgV i j))) := by
    intro l σ H Q h
    obtain ⟨F, H₀, M, ρ, re, q⟩ := h
    refine ⟨F, H₀, M, ρ, re, ?_⟩
    unfold cRgS cRange1 at q
    cases hc : cb ρ with
    | ok d =>
      rw [hc] at q
      intro v H1 s r
      cases hi : intB d with
      | ok i =>
        rw [R.bind_ok, hi] at q
        obtain ⟨rfl, h1, h2⟩ := intB_ok hi
        cases rd_ints r
        simp only [quiet, R.bind_ok] at q
        split at q
        · rename_i hz
          rw [R.bind_ok] at q
          refine ⟨i, rfl, ⟨by omega, by omega, h1, h2, by omega⟩, fun a na => ?_⟩
          have sm := same_upd (o := if l = true then HO.lst (rgV 0 i) else HO.tup (rgV 0 i)) na
          refine q _ _ (s.trans sm) ?_
          cases l with
          | true => exact Nw.older s (Nw.mk na (rgV_rangeL i))
          | false => exact ⟨a, _, rfl, SqT.of upd_same, Rps.same (rgV_rangeL i) sm⟩
        · exact False.elim q
      | exc n es => rw [R.bind_ok, hi] at q; exact False.elim q
      | bad => rw [R.bind_ok, hi] at q; exact False.elim q
    | exc n es => rw [hc] at q; exact q
    | bad => rw [hc] at q; exact q
  rcases hx with rfl | rfl
  · cases h9
    exact .of (pe_E (PE.imp (pe_tupRg (p := p) (pos := pos) (ok.calm hcl) gx.gl (ok.gl.bi _ (by decide)) pr) fun σ H Q h => go (l := false) h))
  · cases h9
    exact .ofF (PE.imp (pe_listRg (p := p) (pos := pos) (ok.calm hcl) gx.gl (ok.gl.bi _ (by decide)) pr) fun σ H Q h => go (l := true) h)
theorem E_call (S : Snd Gr G Φ n) (ok : EOk Gr G Φ k L X W) {f : Expr} {as : List Expr} {ks : List Keyword} {pos : Pos} {fr : Bool} {c : CE} (h : cE G Φ (n + 1) L (.Call f as ks pos) = some (fr, c)) : frS X Gr W (.Call f as ks pos) fr c := by
  cases f with
  | Name x p =>
    cases ks with
    | cons => cases h
    | nil =>
      have h0 := h
      clear h
      have h : (if L.glob x = true ∧ as.all notStar = true then (match fnIx x G.fns 0 with
        | some (k, fi) => if as.length = fi.ps.length ∧ L.calm = true ∧ as.length ≠ 0 then (cAs G Φ n L as >>= fun y => some (false, cCall Φ k y.1 y.2)) else none
        | none => callBi G Φ n L x as) else none) = some (fr, c) := h0
      clear h0
      split at h
      · rename_i hg
        obtain ⟨hg, hst⟩ := hg
        split at h
        · rename_i i fi hf
          split at h
          · rename_i hl
            obtain ⟨⟨cs, os⟩, h1, h⟩ := obind h
            cases h
            obtain ⟨a1, a2⟩ := S.As ok as cs os h1 hst
            cases as with
            | nil => exact absurd rfl hl.2.2
            | cons e es => exact .of (sn_call ok hl.2.1 hg hf hl.1 hst a2 a1)
          · cases h
        · match as, h, hst with
          | [a], h0, hst =>
            have h : (match rgOf L x a with
    | some b => (cB G Φ n L b >>= fun cb => some (decide (x = ("list" : Str)), cRgS (decide (x = ("list" : Str))) cb))
    | none => (bi1 L.calm x >>= fun y => cB G Φ n L a >>= fun ca => some (y.1, c1 y.2 ca))) = some (fr, c) := h0
            clear h0
            split at h
            · rename_i b hb
              obtain ⟨cb, h2, h⟩ := obind h
              have h9 := h
              clear h
              exact rg_call S ok hg hb h2 h9
            obtain ⟨⟨fr', g⟩, h1, h⟩ := obind h
            obtain ⟨ca, h2, h⟩ := obind h
            cases h
            exact bi1_call ok h1 hg (all1 hst) (S.B ok a ca h2).1
          | [a, b], h0, hst =>
            have hst : (notStar a && (notStar b && true)) = true := hst
            rw [Bool.and_true, Bool.and_eq_true] at hst
            have h : (if x = ("isinstance" : Str) then (match exnOf L a with
            | some i => (exTys G L b).map fun ts => (false, cIsE G i ts)
            | none => (isTys L b >>= fun ts => cB G Φ n L a >>= fun ca => some (false, c1 (isiD ts) ca)))
            else (bi2 L.calm x >>= fun g => cB G Φ n L a >>= fun ca => cB G Φ n L b >>= fun cb => some (false, c2 g ca cb))) = some (fr, c) := h0
            clear h0
            split at h
            · rename_i hx
              have h9 := h
              clear h
              subst hx
              split at h9
              · rename_i i hi
                obtain ⟨ts, h1, h2⟩ := omap h9
                cases h2
                exact .of (sn_isE ok hg hi h1)
              · obtain ⟨ts, h1, h9⟩ := obind h9
                obtain ⟨ca, h2, h9⟩ := obind h9
                cases h9
                exact .of (isTys_pe ok h1 hg hst.1 (S.B ok a ca h2).1)
            · obtain ⟨g, h1, h⟩ := obind h
              obtain ⟨ca, h2, h⟩ := obind h
              obtain ⟨cb, h3, h⟩ := obind h
              cases h
              exact .of (bi2_call ok h1 hg hst.1 hst.2 (S.B ok a ca h2).1 (S.B ok b cb h3).1)
      · cases h
  | Attribute o m apos =>
    cases ks with
    | cons => cases h
    | nil =>
      match as, h with
      | [a], h0 =>
        have h : (if notStar a = true ∧ plainB o = true ∧ (apos.endLine == pos.line) = true then (if m = ("get" : Str) then (cB G Φ n L o >>= fun co => cB G Φ n L a >>= fun ca => some (false, cGet1 co ca)) else (me1 m >>= fun g => cB G Φ n L o >>= fun co => cB G Φ n L a >>= fun ca => some (false, cMe g co ca))) else none) = some (fr, c) := h0
        clear h0
        split at h
        · rename_i hc
          split at h
          · rename_i hm
            have h9 := h
            clear h
            subst hm
            obtain ⟨co, h2, h⟩ := obind h9
            obtain ⟨ca, h3, h⟩ := obind h
            cases h
            exact .of (sn_get1 ok hc.1 hc.2.1 hc.2.2 (S.B ok o co h2).1 (S.B ok a ca h3).1)
          · obtain ⟨g, h1, h⟩ := obind h
            obtain ⟨co, h2, h⟩ := obind h
            obtain ⟨ca, h3, h⟩ := obind h
            cases h
            exact .of (me1_call ok h1 hc.1 hc.2.1 hc.2.2 (S.B ok o co h2).1 (S.B ok a ca h3).1)
        · cases h
      | [a, b], h0 =>
        have h : (if m = ("get" : Str) ∧ notStar a = true ∧ notStar b = true ∧ plainB o = true ∧ (apos.endLine == pos.line) = true then (cB G Φ n L o >>= fun co => cB G Φ n L a >>= fun ca => cE G Φ n L b >>= fun y => some (false, cGet2 co ca y.2)) else none) = some (fr, c) := h0
        clear h0
        split at h
        · rename_i hc
          obtain ⟨hm, c1, c2, c3, c4⟩ := hc
          have h9 := h
          clear h
          subst hm
          obtain ⟨co, h2, h⟩ := obind h9
          obtain ⟨ca, h3, h⟩ := obind h
          obtain ⟨⟨fb, cb⟩, h4, h⟩ := obind h
          cases h
          exact .of (sn_get2 ok c1 c2 c3 c4 (S.B ok o co h2).1 (S.B ok a ca h3).1 (S.E ok b fb cb h4).e)
        · cases h
  | _ => cases h
theorem snd_E (S : Snd Gr G Φ n) (ok : EOk Gr G Φ k L X W) (e : Expr) (fr : Bool) (c : CE) (h : cE G Φ (n + 1) L e = some (fr, c)) : frS X Gr W e fr c := by
  cases e with
  | Name x p => exact E_name S ok h
  | Constant v j p => exact E_const S ok h
  | BinOp a op b p => exact E_bin S ok h
  | UnaryOp op a p => exact E_un S ok h
  | BoolOp op es p =>
    obtain ⟨c', h1, h⟩ := obind (show (cBo G Φ n L op es >>= fun c => some (false, c)) = some (fr, c) from h)
    cases h
    exact ⟨S.Bo ok op es _ p h1, fun z => by cases z⟩
  | Compare a ops bs p => exact E_cmp S ok h
  | IfExp t a b p => exact E_if S ok h
  | Subscript v i p => exact E_sub S ok h
  | Tuple es j p => exact E_tup S ok h
  | List es p => exact E_lst S ok h
  | Dict ks vs p => exact E_dict S ok h
  | ListComp elt gs sc p => exact E_lc S ok h
  | Attribute o f p => exact E_attr S ok h
  | Call f as ks p => exact E_call S ok h
  | _ => cases h
theorem tA1_none {K : PySem.W.Frag} {σ : St} {H : Hp} {Q : VK} {c : CE} (h : tA1 K Gr W c none σ H Q) : tE K Gr W c σ H Q := h
theorem sn_varA (ok : EOk Gr G Φ k L X W) {x : Str} {i : Nat} {p : Pos} (h : L.slot x = some i) : PE X (.Name x p) (tA1 X.K Gr W (cVarB i) (some i)) := by
  have s := slot_ok ok.nm h
  refine PE.imp (pe_var s.at_ s.vis s.d1 s.d2) fun σ H Q hh => ?_
  obtain ⟨F, H₀, M, ρ, re, q⟩ := hh
  unfold cVarB at q
  cases e : ρ[i]? with
  | none => rw [e] at q; exact False.elim q
  | some sl =>
    rw [e] at q
    cases sl with
    | no => exact False.elim q
    | exn n ds => exact False.elim q
    | dat d b =>
      have ho : ownAny [some i] ρ = b := by
        show (ownAt ρ i || false) = b
        unfold ownAt
        rw [e, Bool.or_false]
        cases b <;> rfl
      cases b with
      | false =>
        obtain ⟨v, e1, r⟩ := re.pl i d e
        exact ⟨v, e1, q v H (Same.refl H) (by rw [ho]; exact r)⟩
      | true =>
        obtain ⟨v, e1, r⟩ := re_own re e
        exact ⟨v, e1, q v H (Same.refl H) (by rw [ho]; exact r)⟩
theorem snd_B (S : Snd Gr G Φ n) (ok : EOk Gr G Φ k L X W) (e : Expr) (c : CE) (h : cB G Φ (n + 1) L e = some c) : PE X e (tB X.K Gr W c) ∧ (plainT e = true → PT X e (tTst X.K Gr W (cTst c))) ∧ PE X e (tA1 X.K Gr W c (argIx L e)) := by
  have go : argIx L e = none → (cE G Φ n L e).map (·.2) = some c → PE X e (tB X.K Gr W c) ∧ (plainT e = true → PT X e (tTst X.K Gr W (cTst c))) ∧ PE X e (tA1 X.K Gr W c (argIx L e)) := by
    intro ha h
    obtain ⟨⟨fr, c'⟩, h1, h2⟩ := omap h
    cases h2
    have q := S.E ok e fr c' h1
    refine ⟨pe_B q.e, q.2, ?_⟩
    rw [ha]
    exact PE.imp q.e fun σ H Q => tA1_none
  cases e with
  | Name x p =>
    have h : (match L.slot x with | some i => some (cVarB i) | none => (cE G Φ n L (.Name x p)).map (·.2)) = some c := h
    split at h
    · rename_i i hi
      cases h
      refine ⟨sn_varB ok hi, fun _ => pt_of (sn_varB ok hi), ?_⟩
      rw [show argIx L (.Name x p) = some i from hi]
      exact sn_varA ok hi
    · rename_i hi
      exact go hi h
  | _ => exact go rfl h
theorem sndS (S : Snd Gr G Φ n) : Snd Gr G Φ (n + 1) where
  E := fun ok => snd_E S ok
  B := fun ok => snd_B S ok
  Es := fun ok es cs h => by
    cases es with
    | nil => cases h; exact sn_es_nil
    | cons e r =>
      have h : (if notStar e = true then (cE G Φ n _ e >>= fun y => cEs G Φ n _ r >>= fun cs => some (y.2 :: cs)) else none) = some cs := h
      split at h
      · rename_i hs
        obtain ⟨⟨fr, c⟩, h1, h⟩ := obind h
        obtain ⟨cs', h2, h⟩ := obind h
        cases h
        exact sn_es_cons hs (S.E ok e fr c h1).e (S.Es ok r cs' h2)
      · cases h
  Ps := fun {k L X W} ok ks vs cs h => by
    match ks, vs, h with
    | [], [], h => cases h; exact ⟨fun pos => pps_nil, rfl, rfl⟩
    | some e :: ks, v :: vs, h =>
      obtain ⟨ck, h1, h⟩ := obind (show (cB G Φ n L e >>= fun ck => cE G Φ n L v >>= fun y => cPs G Φ n L ks vs >>= fun cs => some ((ck, y.2) :: cs)) = some cs from h)
      obtain ⟨⟨fr, cv⟩, h2, h⟩ := obind h
      obtain ⟨cs', h3, h⟩ := obind h
      cases h
      obtain ⟨a1, a2, a3⟩ := S.Ps ok ks vs cs' h3
      exact ⟨fun pos => pps_cons (S.B ok e ck h1).1 (S.E ok v fr cv h2).e (a1 pos), by simpa using a2, by simp [a3]⟩
    | [], _ :: _, h => cases h
    | none :: _, [], h => cases h
    | none :: _, _ :: _, h => cases h
    | some _ :: _, [], h => cases h
  As := fun {k L X W} ok es cs os h hst => by
    cases es with
    | nil => cases h; exact ⟨PA.imp pa_nil fun σ H Q => tAs_nil, rfl⟩
    | cons e r =>
      obtain ⟨c, h1, h⟩ := obind (show (cB G Φ n L e >>= fun c => cAs G Φ n L r >>= fun y => some (c :: y.1, argIx L e :: y.2)) = some (cs, os) from h)
      obtain ⟨⟨cs', os'⟩, h2, h⟩ := obind h
      rw [List.all_cons, Bool.and_eq_true] at hst
      cases h
      obtain ⟨a1, a2⟩ := S.As ok r cs' os' h2 hst.2
      exact ⟨PA.imp (pa_cons (S.B ok e c h1).2.2 a1 (star_cons hst.1)) fun σ H Q => tAs_cons, by simp [a2]⟩
  O := fun ok o c h => by
    cases o with
    | none => cases h; exact ⟨fun pins s σ H Q I q => po_none.run pins s σ H Q I (tO_none q)⟩
    | some e =>
      obtain ⟨c', h1, h⟩ := obind (show (cB G Φ n _ e >>= fun c => some (some c)) = some c from h)
      cases h
      exact ⟨fun pins s σ H Q I q => (po_some (S.B ok e c' h1).1).run pins s σ H Q I (tO_some q)⟩
  Bo := fun {k L X W} ok op es c pos h => by
    match es, h with
    | [a], h =>
      obtain ⟨⟨fr, c'⟩, h1, h2⟩ := omap (show (cE G Φ n L a).map (·.2) = some c from h)
      cases h2
      exact pe_one (S.E ok a fr c' h1).e
    | a :: b :: r, h =>
      obtain ⟨ca, h1, h⟩ := obind (show (cB G Φ n L a >>= fun ca => cBo G Φ n L op (b :: r) >>= fun cr => match op with | .And => some (cAndV ca cr) | .Or => some (cOrV ca cr)) = some c from h)
      obtain ⟨cr, h2, h⟩ := obind h
      cases op with
      | And => cases h; exact PE.imp (pe_and (S.B ok a ca h1).1 (S.Bo ok .And (b :: r) cr pos h2)) fun σ H Q => tE_andV
      | Or => cases h; exact PE.imp (pe_or (S.B ok a ca h1).1 (S.Bo ok .Or (b :: r) cr pos h2)) fun σ H Q => tE_orV
  T := fun {k L X W} ok e t h => by
    have go : plainT e = true → (cB G Φ n L e >>= fun c => some (cTst c)) = some t → PT X e (tTst X.K Gr W t) := by
      intro hp h
      obtain ⟨c, h1, h⟩ := obind h
      cases h
      exact (S.B ok e c h1).2.1 hp
    cases e with
    | UnaryOp op a p =>
      cases op with
      | Not =>
        obtain ⟨u, h1, h⟩ := obind (show (cT G Φ n L a >>= fun t => some (cNotT t)) = some t from h)
        cases h
        exact PT.imp (pt_not (S.T ok a u h1)) fun σ H Q => tTst_not
      | _ => exact go rfl h
    | BoolOp op es p => exact (S.To ok op es t p h).pt
    | IfExp a b c p => cases h
    | _ => exact go rfl h
  To := fun {k L X W} ok op es t pos h => by
    match es, h with
    | [a], h =>
      have h1 := S.T ok a t (show cT G Φ n L a = some t from h)
      cases op with
      | And => exact pw_and1 h1
      | Or => exact pw_or1 h1
    | a :: b :: r, h =>
      obtain ⟨ca, h1, h⟩ := obind (show (cT G Φ n L a >>= fun ca => cTo G Φ n L op (b :: r) >>= fun cr => match op with | .And => some (cAndT ca cr) | .Or => some (cOrT ca cr)) = some t from h)
      obtain ⟨cr, h2, h⟩ := obind h
      cases op with
      | And => cases h; exact PW.imp (pw_and (S.T ok a ca h1) (S.To ok .And (b :: r) cr pos h2)) fun σ H Q => tTst_and
      | Or => cases h; exact PW.imp (pw_or (S.T ok a ca h1) (S.To ok .Or (b :: r) cr pos h2)) fun σ H Q => tTst_or
  I := fun {k L X W} ok lent tg e c h => by
    have go : cI0 G Φ n L lent e = some c → PI X tg e (tIt X.K Gr W lent c) := S.I0 ok lent tg e c
    cases e with
    | Call f as ks pos =>
      cases f with
      | Name x p =>
        rcases as with _ | ⟨a, _ | ⟨b, _ | ⟨d, r⟩⟩⟩
        · exact go h
        · rcases ks with _ | ⟨k1, ks⟩
          · have h5 : (if ((L.glob x && notStar a) && decide (x = ("range" : Str))) = true then (cB G Φ n L a >>= fun ca => some (cRange1 ca)) else cI0 G Φ n L lent (.Call (.Name x p) [a] [] pos)) = some c := h
            clear h
            split at h5
            · rename_i hc
              rw [Bool.and_eq_true, Bool.and_eq_true, decide_eq_true_iff] at hc
              obtain ⟨⟨h1, h2⟩, rfl⟩ := hc
              obtain ⟨ca, h3, h5⟩ := obind h5
              cases h5
              exact sn_range1 ok h1 h2 (S.B ok a ca h3).1
            · exact go h5
          · exact go h
        · rcases ks with _ | ⟨k1, ks⟩
          · have h5 : (if ((L.glob x && (notStar a && notStar b)) && decide (x = ("range" : Str))) = true then (cB G Φ n L a >>= fun ca => cB G Φ n L b >>= fun cb => some (cRange2 ca cb)) else cI0 G Φ n L lent (.Call (.Name x p) [a, b] [] pos)) = some c := h
            clear h
            split at h5
            · rename_i hc
              rw [Bool.and_eq_true, Bool.and_eq_true, Bool.and_eq_true, decide_eq_true_iff] at hc
              obtain ⟨⟨h1, h2, h2'⟩, rfl⟩ := hc
              obtain ⟨ca, h3, h5⟩ := obind h5
              obtain ⟨cb, h4, h5⟩ := obind h5
              cases h5
              exact sn_range2 ok h1 h2 h2' (S.B ok a ca h3).1 (S.B ok b cb h4).1
            · exact go h5
          · exact go h
        · exact go h
      | _ => exact go h
    | _ => exact go h
  I0 := fun {k L X W} ok lent tg e c h => by
    cases lent with
    | true =>
      obtain ⟨c', h1, h⟩ := obind (show (cB G Φ n L e >>= fun c => some (cItE c)) = some c from h)
      cases h
      exact sn_itB (S.B ok e c' h1).1
    | false =>
      obtain ⟨⟨fr, c'⟩, h1, h⟩ := obind (show (cE G Φ n L e >>= fun y => some (cItE y.2)) = some c from h)
      cases h
      exact sn_itE (S.E ok e fr c' h1).e
end
theorem snd {Gr : Gx} {G : GI} {Φ : Ph} : ∀ n, Snd Gr G Φ n
  | 0 => snd0
  | n + 1 => sndS (snd n)
end Pv


/-! statements: what they do to the names' data -/
namespace Pv
open PySem PySem.Spec L2
open PyProof.Rows hiding St

inductive Fw where
  | nx (ρ : En) | rt (d : PyData) | bk (ρ : En) | ct (ρ : En) | exc (n : Str) (ds : List PyData) (ρ : En) | bad
abbrev CS := En → Fw

/-! ### the state's changes -/
section
variable {K : PySem.W.Frag} {G : Gx} {F M : Addr → Prop} {H₀ H H' : Hp} {ρ : En} {σ : St}
theorem own_new {i : Nat} {d : PyData} {p a : Addr} (h : Own (ρ.set i (.dat d true)) (σ.set i (some (.ref p))) a) : Own ρ σ a ∨ a = p := by
  obtain ⟨j, e, e1, e2⟩ := h
  rw [List.getElem?_set] at e1 e2
  by_cases hij : i = j
  · rw [if_pos hij] at e2
    split at e2
    · injection e2 with e2; injection e2 with e2; injection e2 with e2; exact .inr e2.symm
    · cases e2
  · rw [if_neg hij] at e1 e2
    exact .inl ⟨j, e, e1, e2⟩
theorem RE.there (r : RE K G F H₀ M ρ σ H) {a : Addr} (h : Own ρ σ a) : ∃ o, H a = some o ∧ Mut (some o) ∧ ∀ fs, o ≠ .xd fs := by
  obtain ⟨j, d, e1, e2⟩ := h
  obtain ⟨b, e3, q⟩ := r.ow j d e1
  rw [e2] at e3
  injection e3 with e3; injection e3 with e3; injection e3 with e3
  subst e3
  exact q.there
theorem get_new {α : Type} {l : List α} {i j : Nat} {x y : α} (h : (l.set i x)[j]? = some y) : (i = j ∧ j < l.length ∧ x = y) ∨ (i ≠ j ∧ l[j]? = some y) := by
  rw [List.getElem?_set] at h
  by_cases hij : i = j
  · rw [if_pos hij] at h
    split at h
    · rename_i hlt
      injection h with h
      exact .inl ⟨hij, by omega, h⟩
    · cases h
  · rw [if_neg hij] at h
    exact .inr ⟨hij, h⟩
theorem get_set {α : Type} {l : List α} {i : Nat} {x : α} (h : i < l.length) : (l.set i x)[i]? = some x := by
  rw [List.getElem?_set, if_pos rfl, if_pos h]
theorem get_oth {α : Type} {l : List α} {i j : Nat} {x : α} (h : i ≠ j) : (l.set i x)[j]? = l[j]? := by
  rw [List.getElem?_set, if_neg h]
/-- a new list becomes the name's own -/
theorem RE.putNew (r : RE K G F H₀ M ρ σ H) {i : Nat} {dd : PyData} {v : V} (hdd : plainV dd = false) (nw : Nw K H (FF F ρ σ) H' dd v) (s : Same H H') : RE K G F H₀ M (ρ.set i (.dat dd true)) (σ.set i (some v)) H' := by
  obtain ⟨p, rfl, np, rs⟩ := nw.own hdd
  have hl : ∀ a, FF F (ρ.set i (.dat dd true)) (σ.set i (some (.ref p))) a → FF F ρ σ a ∨ a = p := fun a z => by
    rcases z with z | z
    · exact .inl (.inl z)
    · rcases own_new z with z | z
      · exact .inl (.inr z)
      · exact .inr z
  have up : ∀ {d : PyData} {v : V}, Rp K (FF F ρ σ) H d v → Rp K (FF F (ρ.set i (.dat dd true)) (σ.set i (some (.ref p)))) H' d v := fun {d v} q =>
    Rp.less (Rp.same (Rp.grow (F' := fun a => FF F ρ σ a ∨ a = p) (fun a z => z.imp id fun z => by subst z; exact np) d v q) s) hl
  have ups : ∀ {d : List PyData} {v : List V}, Rps K (FF F ρ σ) H d v → Rps K (FF F (ρ.set i (.dat dd true)) (σ.set i (some (.ref p)))) H' d v := fun {d v} q =>
    Rps.less (Rps.same (Rps.grow (F' := fun a => FF F ρ σ a ∨ a = p) (fun a z => z.imp id fun z => by subst z; exact np) d v q) s) hl
  have pn : ∀ a, Own ρ σ a → a ≠ p := fun a z e => by
    obtain ⟨ws, e1, _⟩ := r.there z
    rw [e, np] at e1; cases e1
  have hlen := r.len
  refine ⟨by simp [hlen], fun j d e => ?_, fun j d e => ?_, fun j l d e a e1 e2 e3 e4 => ?_, fun a o h m => s _ _ (r.frm a o h m), fun a z => ?_, r.fn, fun j n es e => ?_⟩
  · rcases get_new e with ⟨_, _, e⟩ | ⟨hij, e⟩
    · cases e
    · obtain ⟨v, e1, q⟩ := r.pl j d e
      exact ⟨v, by rw [get_oth hij]; exact e1, up q⟩
  · rcases get_new e with ⟨hij, hlt, e⟩ | ⟨hij, e⟩
    · cases e
      subst hij
      exact ⟨p, get_set (by omega), rs.less hl⟩
    · obtain ⟨a, e1, q⟩ := r.ow j d e
      exact ⟨a, by rw [get_oth hij]; exact e1, OwR.less hl (OwR.same s (OwR.grow (F' := fun a => FF F ρ σ a ∨ a = p) (fun a z => z.imp id fun z => by subst z; exact np) q))⟩
  · rcases get_new e1 with ⟨h1, l1, _⟩ | ⟨h1, e1⟩
    · rcases get_new e2 with ⟨h2, _, _⟩ | ⟨h2, e2⟩
      · omega
      · subst h1
        rw [get_set (by omega)] at e3
        rw [get_oth h2] at e4
        injection e3 with e3; injection e3 with e3; injection e3 with e3
        exact absurd e3.symm (pn a ⟨l, e, e2, e4⟩)
    · rw [get_oth h1] at e3
      rcases get_new e2 with ⟨h2, l2, _⟩ | ⟨h2, e2⟩
      · subst h2
        rw [get_set (by omega)] at e4
        injection e4 with e4; injection e4 with e4; injection e4 with e4
        exact absurd e4.symm (pn a ⟨j, d, e1, e3⟩)
      · rw [get_oth h2] at e4
        exact r.un j l d e a e1 e2 e3 e4
  · rcases own_new z with z | z
    · exact r.own a z
    · subst z
      refine ⟨?_, fun f => ?_⟩
      · by_cases m : M a
        · exact .inr m
        · left
          cases e : H₀ a with
          | none => rfl
          | some o => have := r.frm a o e m; rw [np] at this; cases this
      · obtain ⟨mu, m⟩ := r.fn a f
        obtain ⟨o, e⟩ := mut_some mu
        have := r.frm a o e m
        rw [np] at this; cases this
  · rcases get_new e with ⟨_, _, e⟩ | ⟨hij, e⟩
    · cases e
    · obtain ⟨a, C, od, e1, e2, x⟩ := r.ex j n es e
      exact ⟨a, C, od, e1, by rw [get_oth hij]; exact e2, x.keep (fun _ _ e => s _ _ e) fun vs q => ups q⟩
/-- a list of one's own changes -/
theorem RE.mutateO (r : RE K G F H₀ M ρ σ H) {i : Nat} {d d' : PyData} {a : Addr} {og : HO} (e : ρ[i]? = some (.dat d true)) (hi : σ[i]? = some (some (.ref a))) (q : Kp (FF F ρ σ) H (upd H a og) → OwR K (FF F ρ σ) (upd H a og) d' a) : RE K G F H₀ M (ρ.set i (.dat d' true)) σ (upd H a og) := by
  have hown : Own ρ σ a := ⟨i, d, e, hi⟩
  obtain ⟨o0, h0, mu0, nx0⟩ := r.there hown
  have ob : ∀ b, Own (ρ.set i (.dat d' true)) σ b → Own ρ σ b := fun b ⟨j, x, e1, e2⟩ => by
    rcases get_new e1 with ⟨hij, _, e1⟩ | ⟨hij, e1⟩
    · subst hij; exact ⟨i, d, e, e2⟩
    · exact ⟨j, x, e1, e2⟩
  have hl : ∀ b, FF F (ρ.set i (.dat d' true)) σ b → FF F ρ σ b := fun b z => z.imp id (ob b)
  have kp : Kp (FF F ρ σ) H (upd H a og) := fun b o hb c => by
    by_cases hba : b = a
    · subst hba
      rw [h0] at hb
      cases hb
      rcases c with c | ⟨xs, c⟩ | ⟨u, xs, c⟩
      · exact absurd (.inr hown) c
      · subst c; exact False.elim mu0
      · subst c; exact False.elim mu0
    · rw [upd_ne hba]; exact hb
  have hlt : i < ρ.length := (List.getElem?_eq_some_iff.mp e).1
  refine ⟨by simp [r.len], fun j x ex => ?_, fun j x ex => ?_, fun j l x y b e1 e2 e3 e4 => ?_, fun b o h m => ?_, fun b z => r.own b (ob b z), r.fn, fun j n ds ex => ?_⟩
  · rcases get_new ex with ⟨_, _, ex⟩ | ⟨hij, ex⟩
    · cases ex
    · obtain ⟨v, e1, rv⟩ := r.pl j x ex
      exact ⟨v, e1, Rp.keep kp hl _ _ rv⟩
  · rcases get_new ex with ⟨hij, _, ex⟩ | ⟨hij, ex⟩
    · cases ex
      subst hij
      exact ⟨a, hi, (q kp).less hl⟩
    · obtain ⟨b, e1, rv⟩ := r.ow j x ex
      have hba : b ≠ a := fun z => by
        subst z
        exact hij (r.un i j d x b e ex hi e1)
      exact ⟨b, e1, rv.keep kp hl fun o e2 => by rw [upd_ne hba]; exact e2⟩
  · have g : ∀ {j : Nat} {x : PyData}, (ρ.set i (Sl.dat d' true))[j]? = some (Sl.dat x true) → ∃ x' : PyData, ρ[j]? = some (Sl.dat x' true) := fun {j x} z => by
      rcases get_new z with ⟨hij, _, _⟩ | ⟨_, z⟩
      · subst hij; exact ⟨d, e⟩
      · exact ⟨x, z⟩
    obtain ⟨x', e1⟩ := g e1
    obtain ⟨y', e2⟩ := g e2
    exact r.un j l x' y' b e1 e2 e3 e4
  · by_cases hba : b = a
    · subst hba
      rcases (r.own b hown).1 with z | z
      · rw [z] at h; cases h
      · exact absurd z m
    · rw [upd_ne hba]; exact r.frm b o h m
  · rcases get_new ex with ⟨_, _, ex⟩ | ⟨hij, ex⟩
    · cases ex
    · obtain ⟨b, C, od, e1, e2, x⟩ := r.ex j n ds ex
      refine ⟨b, C, od, e1, e2, x.keep (fun dx fs hx => ?_) fun vs rv => Rps.keep kp hl _ _ rv⟩
      rw [upd_ne (fun z => by subst z; rw [h0] at hx; cases hx; exact nx0 _ rfl)]
      exact hx
theorem RE.mutate (r : RE K G F H₀ M ρ σ H) {i : Nat} {d : PyData} {es : List PyData} {a : Addr} {ws : List V} (e : ρ[i]? = some (.dat d true)) (hi : σ[i]? = some (some (.ref a))) (q : Rps K (FF F ρ σ) H es ws) : RE K G F H₀ M (ρ.set i (.dat (.list es) true)) σ (upd H a (.lst ws)) :=
  r.mutateO (d' := .list es) e hi fun kp => ⟨ws, upd_same, Rps.keep kp (fun _ z => z) _ _ q⟩
/-- a dict of one's own changes -/
theorem RE.mutateD (r : RE K G F H₀ M ρ σ H) {i : Nat} {d : PyData} {es : List (PyData × PyData)} {a : Addr} {ws : List V} {ob : HO} (e : ρ[i]? = some (.dat d true)) (hi : σ[i]? = some (some (.ref a))) (c : DcO (es.map (·.1)) ws ob) (q : Rpk K (FF F ρ σ) H es ws) : RE K G F H₀ M (ρ.set i (.dat (.dict es) true)) σ (upd H a ob) :=
  r.mutateO (d' := .dict es) e hi fun kp => ⟨ws, ob, upd_same, c, Rpk.keep kp (fun _ z => z) _ _ q⟩
/-- a list is one's own no longer -/
def disE (i : Nat) (ρ : En) : En := match ρ[i]? with
  | some (.dat d true) => ρ.set i (.dat d false)
  | _ => ρ
theorem RE.dis (r : RE K G F H₀ M ρ σ H) (i : Nat) : RE K G F H₀ M (disE i ρ) σ H := by
  unfold disE
  cases e : ρ[i]? with
  | none => exact r
  | some sl =>
    cases sl with
    | no => exact r
    | exn n ds => exact r
    | dat d b =>
      cases b with
      | false => exact r
      | true =>
        show RE K G F H₀ M (ρ.set i (.dat d false)) σ H
        obtain ⟨a, hi, rs⟩ := r.ow i d e
        have ob : ∀ b, Own (ρ.set i (.dat d false)) σ b → Own ρ σ b ∧ b ≠ a := fun b ⟨j, x, e1, e2⟩ => by
          rcases get_new e1 with ⟨hij, _, e1⟩ | ⟨hij, e1⟩
          · cases e1
          · exact ⟨⟨j, x, e1, e2⟩, fun z => hij (r.un i j _ x a e e1 hi (by rw [← z]; exact e2))⟩
        have hl : ∀ b, FF F (ρ.set i (.dat d false)) σ b → FF F ρ σ b := fun b z => z.imp id fun z => (ob b z).1
        have hlt : i < ρ.length := (List.getElem?_eq_some_iff.mp e).1
        refine ⟨by simp [r.len], fun j x ex => ?_, fun j x ex => ?_, fun j l x y b e1 e2 e3 e4 => ?_, r.frm, fun b z => r.own b (ob b z).1, r.fn, fun j n es ex => ?_⟩
        · rcases get_new ex with ⟨hij, _, ex⟩ | ⟨hij, ex⟩
          · cases ex
            subst hij
            refine ⟨_, hi, (rs.less hl).rp fun z => ?_⟩
            rcases z with z | z
            · exact (r.own a ⟨i, _, e, hi⟩).2 z
            · exact (ob a z).2 rfl
          · obtain ⟨v, e1, rv⟩ := r.pl j x ex
            exact ⟨v, e1, rv.less hl⟩
        · rcases get_new ex with ⟨hij, _, ex⟩ | ⟨hij, ex⟩
          · cases ex
          · obtain ⟨b, e1, rv⟩ := r.ow j x ex
            exact ⟨b, e1, rv.less hl⟩
        · rcases get_new e1 with ⟨_, _, e1⟩ | ⟨_, e1⟩
          · cases e1
          · rcases get_new e2 with ⟨_, _, e2⟩ | ⟨_, e2⟩
            · cases e2
            · exact r.un j l x y b e1 e2 e3 e4
        · rcases get_new ex with ⟨_, _, ex⟩ | ⟨hij, ex⟩
          · cases ex
          · obtain ⟨b, C, od, e1, e2, x⟩ := r.ex j n es ex
            exact ⟨b, C, od, e1, e2, x.less hl⟩
def disL : List Nat → En → En
  | [], ρ => ρ
  | i :: is, ρ => disL is (disE i ρ)
theorem RE.disL : ∀ {is : List Nat} {ρ : En}, RE K G F H₀ M ρ σ H → RE K G F H₀ M (Pv.disL is ρ) σ H
  | [], _, r => r
  | i :: is, _, r => RE.disL (is := is) (r.dis i)
/-! another start -/
theorem RE.inner (r : RE K G F H₀ M ρ σ H) : RE K G F H (Own ρ σ) ρ σ H where
  len := r.len
  pl := r.pl
  ow := r.ow
  un := r.un
  frm := fun a o h _ => h
  own := fun a z => ⟨.inr z, (r.own a z).2⟩
  fn := fun a z => ⟨r.ff (.inl z), fun c => (r.own a c).2 z⟩
  ex := r.ex
def Frm (H₀ : Hp) (M : Addr → Prop) (H : Hp) : Prop := ∀ a o, H₀ a = some o → ¬ M a → H a = some o
theorem Frm.outer (r : RE K G F H₀ M ρ σ H) (f : Frm H (Own ρ σ) H') : Frm H₀ M H' := fun a o h m => by
  refine f a o (r.frm a o h m) fun z => ?_
  rcases (r.own a z).1 with e | e
  · rw [e] at h; cases h
  · exact m e
theorem RE.outer {ρ' : En} {σ' : St} (r : RE K G F H₀ M ρ σ H) (i : RE K G F H (Own ρ σ) ρ' σ' H') : RE K G F H₀ M ρ' σ' H' where
  len := i.len
  pl := i.pl
  ow := i.ow
  un := i.un
  frm := Frm.outer r i.frm
  own := fun a z => ⟨by
    rcases (i.own a z).1 with e | e
    · by_cases m : M a
      · exact .inr m
      · left
        cases e2 : H₀ a with
        | none => rfl
        | some o => have := r.frm a o e2 m; rw [e] at this; cases this
    · exact (r.own a e).1, (i.own a z).2⟩
  fn := r.fn
  ex := i.ex
/-! ### what is asked of a statement's end -/
def FPost (K : PySem.W.Frag) (G : Gx) (W : WX) (F : Addr → Prop) (H₀ : Hp) (M : Addr → Prop) (D : Ends) : Fw → Prop
  | .nx ρ' => ∀ σ' H', RE K G F H₀ M ρ' σ' H' → D.nx σ' H'
  | .bk ρ' => ∀ σ' H', RE K G F H₀ M ρ' σ' H' → D.bk σ' H'
  | .ct ρ' => ∀ σ' H', RE K G F H₀ M ρ' σ' H' → D.ct σ' H'
  | .rt d => ∀ v H', Frm H₀ M H' → Rp K F H' d v → D.rt v H'
  | .exc n ds ρ' => ∀ cls od σ' H', RE K G F H₀ M ρ' σ' H' → XR K G (FF F ρ' σ') H' n ds cls od → W cls od σ' H'
  | .bad => False
def tSt (K : PySem.W.Frag) (G : Gx) (W : WX) (c : CS) : TS := fun D σ H => ∃ F H₀ M ρ, RE K G F H₀ M ρ σ H ∧ FPost K G W F H₀ M D (c ρ)
end
def disow (is : List Nat) (c : CS) : CS := fun ρ => c (disL is ρ)
theorem tSt_dis {K : PySem.W.Frag} {G : Gx} {W : WX} {D : Ends} {σ : St} {H : Hp} {is : List Nat} {c : CS} (h : tSt K G W (disow is c) D σ H) : tSt K G W c D σ H := by
  obtain ⟨F, H₀, M, ρ, re, p⟩ := h
  exact ⟨F, H₀, M, _, re.disL, p⟩
theorem PS.imp {X : Cx} {s : Stmt} {t t' : TS} (h : PS X s t) (hm : ∀ D σ H, t' D σ H → t D σ H) : PS X s t' := ⟨fun pins s σ H D I q => h.run pins s σ H D I (hm D σ H q)⟩
theorem PSs.imp {X : Cx} {s : List Stmt} {t t' : TS} (h : PSs X s t) (hm : ∀ D σ H, t' D σ H → t D σ H) : PSs X s t' := ⟨fun pins s σ H D I q => h.run pins s σ H D I (hm D σ H q)⟩
/-! ### the makers -/
def ofE (c : CE) (k : PyData → En → Fw) : CS := fun ρ => match c ρ with
  | .ok d => k d ρ
  | .exc n ds => .exc n ds ρ
  | .bad => .bad
def isL : PyData → Bool
  | .list _ | .dict _ => true
  | _ => false
def sSet (i : Nat) (fr : Bool) (c : CE) : CS := ofE c fun d ρ => .nx (ρ.set i (.dat d (fr && isL d)))
def sTg (g : Tg) (c : CE) : CS := ofE c fun d ρ => match tgSet g d ρ with
  | .ok ρ' => .nx ρ'
  | _ => .bad
def sRet (c : CE) : CS := ofE c fun d _ => .rt d
def sDrop (c : CE) : CS := ofE c fun _ ρ => .nx ρ
def sApp (i : Nat) (c : CE) : CS := fun ρ => match ρ[i]? with
  | some (.dat (.list ds) true) => (match c ρ with
    | .ok d => if ds.length < 16000000 then .nx (ρ.set i (.dat (.list (ds ++ [d])) true)) else .bad
    | .exc n es => .exc n es ρ
    | .bad => .bad)
  | _ => .bad
def sPut (i : Nat) (cj c : CE) : CS := fun ρ => match ρ[i]? with
  | some (.dat (.list ds) true) => (match c ρ with
    | .ok d => (match cj ρ with
      | .ok (.int j) => (match ixN ds.length j with
        | some n => .nx (ρ.set i (.dat (.list (ds.set n d)) true))
        | none => .bad)
      | _ => .bad)
    | .exc n es => .exc n es ρ
    | .bad => .bad)
  | some (.dat (.dict kvs) true) => (match c ρ with
    | .ok d => (match cj ρ with
      | .ok k => (match keyK k with
        | some κ => if allK kvs = true ∧ kvs.length < 16000000 then .nx (ρ.set i (.dat (.dict (putG keyK kD κ d kvs)) true)) else .bad
        | none => .bad)
      | _ => .bad)
    | .exc n es => .exc n es ρ
    | .bad => .bad)
  | _ => .bad
/-- d[a, b] = e -/
def sPutT (i : Nat) (cs : List CE) (c : CE) : CS := fun ρ => match ρ[i]? with
  | some (.dat (.dict kvs) true) => (match c ρ with
    | .ok d => (match cAll cs ρ with
      | .ok ks => (match keysK ks with
        | some κ => if allT kvs = true ∧ kvs.length < 16000000 ∧ ks.length ≤ 1000 then .nx (ρ.set i (.dat (.dict (putG keyT kTD κ d kvs)) true)) else .bad
        | none => .bad)
      | _ => .bad)
    | .exc n es => .exc n es ρ
    | .bad => .bad)
  | _ => .bad
def sSeq (a b : CS) : CS := fun ρ => match a ρ with
  | .nx ρ' => b ρ'
  | r => r
def sIf (t : CT) (a b : CS) : CS := fun ρ => match t ρ with
  | .ok true => a ρ
  | .ok false => b ρ
  | .exc n ds => .exc n ds ρ
  | .bad => .bad
def forL (g : Tg) (b : CS) : List PyData → En → Fw
  | [], ρ => .nx ρ
  | d :: ds, ρ => match tgSet g d ρ with
    | .ok ρ1 => (match b ρ1 with
      | .nx ρ' => forL g b ds ρ'
      | .ct ρ' => forL g b ds ρ'
      | .bk ρ' => .nx ρ'
      | r => r)
    | _ => .bad
def sFor (ci : CI) (g : Tg) (b : CS) : CS := fun ρ => match ci ρ with
  | .ok ds => forL g b ds ρ
  | .exc n ds => .exc n ds ρ
  | .bad => .bad
def whileL (t : CT) (b : CS) : Nat → En → Fw
  | 0, _ => .bad
  | n + 1, ρ => match t ρ with
    | .ok true => (match b ρ with
      | .nx ρ' => whileL t b n ρ'
      | .ct ρ' => whileL t b n ρ'
      | .bk ρ' => .nx ρ'
      | r => r)
    | .ok false => .nx ρ
    | .exc n ds => .exc n ds ρ
    | .bad => .bad
def sWhile (n : Nat) (t : CT) (b : CS) : CS := whileL t b n
def sNx : CS := fun ρ => .nx ρ
def sBk : CS := fun ρ => .bk ρ
def sCt : CS := fun ρ => .ct ρ
def sRetN : CS := fun _ => .rt .none
end Pv


/-! statements: sound -/
namespace Pv
open PySem PySem.Spec L2
open PyProof.Rows hiding St

structure SOk (Gr : Gx) (G : GI) (Φ : Ph) (k : Nat) (L : Lc) (X : Cx) (W : WX) : Prop extends EOk Gr G Φ k L X W where
  kd : X.env.scope.kind = .function
  pa : L.calm = true → PassesOwn (model X.prog X.w) X.A X.env X.xe
  st : X.stack = X.env :: X.outer
  fr : X.env.frame = some X.env.locals
section
variable {K : PySem.W.Frag} {Gr : Gx} {W : WX} {D : Ends} {σ : St} {H : Hp}
theorem st_E {c : CE} {k : PyData → En → Fw} (h : tSt K Gr W (ofE c k) D σ H) : tE K Gr W c σ H fun v H1 => ∃ F H₀ M ρ d, RE K Gr F H₀ M ρ σ H1 ∧ Rp K (FF F ρ σ) H1 d v ∧ FPost K Gr W F H₀ M D (k d ρ) := by
  obtain ⟨F, H₀, M, ρ, re, p⟩ := h
  refine ⟨F, H₀, M, ρ, re, ?_⟩
  unfold ofE at p
  cases hc : c ρ with
  | ok d => rw [hc] at p; exact fun v H1 s r => ⟨F, H₀, M, ρ, d, re.same s, r, p⟩
  | exc n ds => rw [hc] at p; exact fun cls od H1 s x => p cls od σ H1 (re.same s) x
  | bad => rw [hc] at p; exact p
theorem st_F {c : CE} {k : PyData → En → Fw} (h : tSt K Gr W (ofE c k) D σ H) : tF K Gr W c σ H fun v H1 => ∃ F H₀ M ρ d, RE K Gr F H₀ M ρ σ H ∧ Same H H1 ∧ Nw K H (FF F ρ σ) H1 d v ∧ FPost K Gr W F H₀ M D (k d ρ) := by
  obtain ⟨F, H₀, M, ρ, re, p⟩ := h
  refine ⟨F, H₀, M, ρ, re, ?_⟩
  unfold ofE at p
  cases hc : c ρ with
  | ok d => rw [hc] at p; exact fun v H1 s r => ⟨F, H₀, M, ρ, d, re, s, r, p⟩
  | exc n ds => rw [hc] at p; exact fun cls od H1 s x => p cls od σ H1 (re.same s) x
  | bad => rw [hc] at p; exact p
theorem st_seq {a b : CS} (h : tSt K Gr W (sSeq a b) D σ H) : tSeq (tSt K Gr W a) (tSt K Gr W b) D σ H := by
  obtain ⟨F, H₀, M, ρ, re, p⟩ := h
  refine ⟨F, H₀, M, ρ, re, ?_⟩
  unfold sSeq at p
  cases ha : a ρ with
  | nx ρ' => rw [ha] at p; exact fun σ' H' r => ⟨F, H₀, M, ρ', r, p⟩
  | rt d => rw [ha] at p; exact p
  | bk ρ' => rw [ha] at p; exact p
  | ct ρ' => rw [ha] at p; exact p
  | exc n ds ρ' => rw [ha] at p; exact p
  | bad => rw [ha] at p; exact p
theorem st_if {t : CT} {a b : CS} (h : tSt K Gr W (sIf t a b) D σ H) : tIfS (tTst K Gr W t) (tSt K Gr W a) (tSt K Gr W b) D σ H := by
  obtain ⟨F, H₀, M, ρ, re, p⟩ := h
  refine ⟨F, H₀, M, ρ, re, ?_⟩
  unfold sIf at p
  cases ht : t ρ with
  | ok k =>
    rw [ht] at p
    intro k' H1 s e
    subst e
    cases k with
    | true => exact ⟨F, H₀, M, ρ, re.same s, p⟩
    | false => exact ⟨F, H₀, M, ρ, re.same s, p⟩
  | exc n ds => rw [ht] at p; exact fun cls od H1 s x => p cls od σ H1 (re.same s) x
  | bad => rw [ht] at p; exact p
theorem st_ret {c : CE} (h : tSt K Gr W (sRet c) D σ H) : tRet (tE K Gr W c) D σ H := by
  obtain ⟨F, H₀, M, ρ, re, p⟩ := h
  refine ⟨F, H₀, M, ρ, re, ?_⟩
  unfold sRet ofE at p
  cases hc : c ρ with
  | ok d => rw [hc] at p; exact fun v H1 s r => p v H1 (re.same s).frm (r.less fun a z => .inl z)
  | exc n ds => rw [hc] at p; exact fun cls od H1 s x => p cls od σ H1 (re.same s) x
  | bad => rw [hc] at p; exact p
theorem st_retN (h : tSt K Gr W sRetN D σ H) : tRetN D σ H := by
  obtain ⟨F, H₀, M, ρ, re, p⟩ := h
  exact p .non H re.frm rfl
theorem st_drop {c : CE} (h : tSt K Gr W (sDrop c) D σ H) : tDrop (tE K Gr W c) D σ H := by
  obtain ⟨F, H₀, M, ρ, re, p⟩ := h
  refine ⟨F, H₀, M, ρ, re, ?_⟩
  unfold sDrop ofE at p
  cases hc : c ρ with
  | ok d => rw [hc] at p; exact fun v H1 s r => p σ H1 (re.same s)
  | exc n ds => rw [hc] at p; exact fun cls od H1 s x => p cls od σ H1 (re.same s) x
  | bad => rw [hc] at p; exact p
theorem st_nx (h : tSt K Gr W sNx D σ H) : tNext D σ H := by
  obtain ⟨F, H₀, M, ρ, re, p⟩ := h
  exact p σ H re
theorem st_bk (h : tSt K Gr W sBk D σ H) : tBreak D σ H := by
  obtain ⟨F, H₀, M, ρ, re, p⟩ := h
  exact p σ H re
theorem st_ct (h : tSt K Gr W sCt D σ H) : tCont D σ H := by
  obtain ⟨F, H₀, M, ρ, re, p⟩ := h
  exact p σ H re
theorem st_set {i : Nat} {c : CE} (h : tSt K Gr W (sSet i false c) D σ H) : tAsg (tE K Gr W c) (gName i) D σ H := by
  obtain ⟨F, H₀, M, ρ, re, p⟩ := h
  refine ⟨F, H₀, M, ρ, re, ?_⟩
  unfold sSet ofE at p
  cases hc : c ρ with
  | ok d =>
    rw [hc] at p
    exact fun v H1 s r => p _ H1 ((re.same s).put (s := .dat d false) ⟨v, rfl, r⟩)
  | exc n ds => rw [hc] at p; exact fun cls od H1 s x => p cls od σ H1 (re.same s) x
  | bad => rw [hc] at p; exact p
theorem st_setF {i : Nat} {c : CE} (h : tSt K Gr W (sSet i true c) D σ H) : tAsg (tF K Gr W c) (gName i) D σ H := by
  obtain ⟨F, H₀, M, ρ, re, p⟩ := h
  refine ⟨F, H₀, M, ρ, re, ?_⟩
  unfold sSet ofE at p
  cases hc : c ρ with
  | ok d =>
    rw [hc] at p
    intro v H1 s r
    cases d with
    | list ds => exact p _ H1 (re.putNew rfl r s)
    | dict ds => exact p _ H1 (re.putNew rfl r s)
    | none => exact p _ H1 ((re.same s).put (s := .dat .none false) ⟨v, rfl, r⟩)
    | bool b => exact p _ H1 ((re.same s).put (s := .dat (.bool b) false) ⟨v, rfl, r⟩)
    | int b => exact p _ H1 ((re.same s).put (s := .dat (.int b) false) ⟨v, rfl, r⟩)
    | str b => exact p _ H1 ((re.same s).put (s := .dat (.str b) false) ⟨v, rfl, r⟩)
    | tuple b => exact p _ H1 ((re.same s).put (s := .dat (.tuple b) false) ⟨v, rfl, r⟩)
  | exc n ds => rw [hc] at p; exact fun cls od H1 s x => p cls od σ H1 (re.same s) x
  | bad => rw [hc] at p; exact p
theorem st_tg {g : Tg} {c : CE} (h : tSt K Gr W (sTg g c) D σ H) : tAsg (tE K Gr W c) (tTg K g) D σ H := by
  obtain ⟨F, H₀, M, ρ, re, p⟩ := h
  refine ⟨F, H₀, M, ρ, re, ?_⟩
  unfold sTg ofE at p
  cases hc : c ρ with
  | ok d =>
    rw [hc] at p
    dsimp only at p
    intro v H1 s r
    cases ht : tgSet g d ρ with
    | ok ρ' => rw [ht] at p; exact tg_run (re.same s) r ht fun σ' re' _ => p σ' H1 re'
    | exc n es => rw [ht] at p; exact False.elim p
    | bad => rw [ht] at p; exact False.elim p
  | exc n ds => rw [hc] at p; exact fun cls od H1 s x => p cls od σ H1 (re.same s) x
  | bad => rw [hc] at p; exact p
/-- x.append(e) -/
theorem st_app {i : Nat} {c : CE} (h : tSt K Gr W (sApp i c) D σ H) : tDrop (tBM K "list" rAppend (tVar i) (tCons (tE K Gr W c) tNil)) D σ H := by
  obtain ⟨F, H₀, M, ρ, re, p⟩ := h
  unfold sApp at p
  cases hi : ρ[i]? with
  | none => rw [hi] at p; exact False.elim p
  | some sl =>
    rw [hi] at p
    split at p
    · rename_i ds e
      injection e with e
      subst e
      obtain ⟨a, e1, vs, e2, rs⟩ := re.ow i _ hi
      refine ⟨.ref a, e1, .inl ⟨rfl, vs, .inl (.inl e2)⟩, F, H₀, M, ρ, re, ?_⟩
      cases hc : c ρ with
      | ok d =>
        rw [hc] at p
        intro v H1 s r
        dsimp only at p
        split at p
        · rename_i hz
          have hl := rs.length
          have := sizeLine_eq
          exact ⟨a, vs, v, rfl, rfl, s _ _ e2, by omega, p σ _ ((re.same s).mutate hi e1 ((rs.same s).append (Rps.one r)))⟩
        · exact False.elim p
      | exc n es => rw [hc] at p; exact fun cls od H1 s x => p cls od σ H1 (re.same s) x
      | bad => rw [hc] at p; exact p
    · exact False.elim p
/-- x[j] = e -/
def rSetX : TSet := fun o i v H Q => rSetL o i v H Q ∨ rSetD o i v H Q
theorem set_x {X : Cx} (hu : X.A.units + 1 < cLine) : PSet X rSetX := by
  intro pins s σ H o i v ov iv u Q I ro ri rv h
  rcases h with h | h
  · exact set_list pins s σ H o i v ov iv u Q I ro ri rv h
  · exact set_dict hu pins s σ H o i v ov iv u Q I ro ri rv h
theorem st_put {i : Nat} {cj c : CE} (h : tSt K Gr W (sPut i cj c) D σ H) : tAsg (tE K Gr W c) (gSub (tVar i) (tB K Gr W cj) rSetX) D σ H := by
  obtain ⟨F, H₀, M, ρ, re, p⟩ := h
  refine ⟨F, H₀, M, ρ, re, ?_⟩
  unfold sPut at p
  cases hi : ρ[i]? with
  | none => rw [hi] at p; exact False.elim p
  | some sl =>
    rw [hi] at p
    split at p
    · rename_i ds e
      injection e with e
      subst e
      obtain ⟨a, e1, vs, e2, rs⟩ := re.ow i _ hi
      cases hc : c ρ with
      | ok d =>
        rw [hc] at p
        intro v H1 s r
        dsimp only at p
        refine ⟨.ref a, e1, F, H₀, M, ρ, re.same s, ?_⟩
        cases hj : cj ρ with
        | ok jd =>
          rw [hj] at p
          intro y H2 s2 ry
          cases jd with
          | int j =>
            dsimp only at p
            cases rd_ints ry
            split at p
            · rename_i n hn
              have hl := rs.length
              exact .inl ⟨a, vs, j, n, rfl, rfl, s2 _ _ (s _ _ e2), by rw [← hl]; exact hn, p σ _ ((re.same (s.trans s2)).mutate hi e1 ((rs.same (s.trans s2)).set (r.same s2) n))⟩
            · exact False.elim p
          | _ => exact False.elim p
        | exc n es => rw [hj] at p; exact False.elim p
        | bad => rw [hj] at p; exact False.elim p
      | exc n es => rw [hc] at p; exact fun cls od H1 s x => p cls od σ H1 (re.same s) x
      | bad => rw [hc] at p; exact p
    · rename_i kvs e
      injection e with e
      subst e
      obtain ⟨a, e1, vs, ob, e2, co, rs⟩ := re.ow i _ hi
      cases hc : c ρ with
      | ok d =>
        rw [hc] at p
        intro v H1 s r
        dsimp only at p
        refine ⟨.ref a, e1, F, H₀, M, ρ, re.same s, ?_⟩
        cases hj : cj ρ with
        | ok jd =>
          rw [hj] at p
          intro y H2 s2 ry
          dsimp only at p
          cases hk : keyK jd with
          | none => rw [hk] at p; exact False.elim p
          | some κ =>
            rw [hk] at p
            dsimp only at p
            split at p
            · rename_i hz
              obtain ⟨ha, hz⟩ := hz
              obtain ⟨ks, q1, rfl⟩ := dco_K co (fun x hx => by
                obtain ⟨q, hq, rfl⟩ := List.mem_map.mp hx
                exact List.all_eq_true.mp ha q hq)
              have rs2 := rs.same (s.trans s2)
              obtain ⟨js, ws, g1, g2, g3⟩ := put_rel keyK_kD κ (r.same s2) q1 rs2
              have hl := keys_len q1 rs
              have hl2 := rs.length
              cases rb_key hk ry
              refine .inr ⟨a, _, rfl, DPut.k (s2 _ _ (s _ _ e2)) ?_, p σ _ ?_⟩
              · have := sizeLine_eq
                rw [List.length_zip]; omega
              · rw [g1]
                exact (re.same (s.trans s2)).mutateD hi e1 (.inl ⟨js, g2, rfl⟩) g3
            · exact False.elim p
        | exc n es => rw [hj] at p; exact False.elim p
        | bad => rw [hj] at p; exact False.elim p
      | exc n es => rw [hc] at p; exact fun cls od H1 s x => p cls od σ H1 (re.same s) x
      | bad => rw [hc] at p; exact p
    · exact False.elim p
/-- d[a, b] = e -/
def rSetT : TSet := fun o i v H Q => ∃ a b k kvs, o = .ref a ∧ i = .ref b ∧ H b = some (.tup (k.map kV)) ∧ (H a = some (.dT kvs) ∨ (H a = some (.dK []) ∧ kvs = [])) ∧ kvs.length < sizeLine ∧ Q (upd H a (.dT (putK kvs k v)))
theorem dk_to_dt {X : Cx} {pins : List (Addr × Obj)} {σ : St} {H : Hp} {s : Shared} {a : Addr} (I : Inv X pins σ H s) (e : H a = some (.dK [])) : Inv X pins σ (upd H a (.dT [])) s := by
  obtain ⟨_, hd, us, rel, dd⟩ := dk_of I.hok e
  have hus : us = [] := by cases rel; rfl
  obtain ⟨o, es, ep, h1, h2, h3, h4, _⟩ := dk_nil_t dd hus
  exact d_write (t' := s.toks) I (by rw [e]; trivial) ⟨rfl, fun b hb => rfl⟩ ⟨o, h1⟩ ⟨Nat.zero_le _, hd, [], .nil, o, es, ep, h1, h2, h3, h4, by simp⟩
theorem set_t {X : Cx} (hu : X.A.units + 1 < cLine) : PSet X rSetT := by
  intro pins s σ H o i v ov iv u Q I ro ri rv h
  obtain ⟨a, b, k, kvs, rfl, rfl, eb, ha, hz, q⟩ := h
  cases (show ov = Value.ref a from ro)
  rcases ha with ha | ⟨ha, rfl⟩
  · exact d_setItem hu I (DPut.t ha eb hz) ri rv fun s' I' => ⟨_, I', q⟩
  · have I2 := dk_to_dt I ha
    have hba : b ≠ a := fun z => by subst z; rw [ha] at eb; cases eb
    refine d_setItem hu I2 (DPut.t upd_same (by rw [upd_ne hba]; exact eb) hz) ri rv fun s' I' => ⟨_, I', ?_⟩
    rw [upd_upd]
    exact q
theorem st_putT {i : Nat} {cs : List CE} {c : CE} (h : tSt K Gr W (sPutT i cs c) D σ H) : tAsg (tE K Gr W c) (gSub (tVar i) (tTup (tEs K Gr W (cAll cs))) rSetT) D σ H := by
  obtain ⟨F, H₀, M, ρ, re, p⟩ := h
  refine ⟨F, H₀, M, ρ, re, ?_⟩
  unfold sPutT at p
  cases hi : ρ[i]? with
  | none => rw [hi] at p; exact False.elim p
  | some sl =>
    rw [hi] at p
    split at p
    · rename_i kvs e
      injection e with e
      subst e
      obtain ⟨a, e1, vs, ob, e2, co, rs⟩ := re.ow i _ hi
      cases hc : c ρ with
      | ok d =>
        rw [hc] at p
        intro v H1 s r
        dsimp only at p
        refine ⟨.ref a, e1, F, H₀, M, ρ, re.same s, ?_⟩
        cases hj : cAll cs ρ with
        | ok ds =>
          rw [hj] at p
          intro ys H2 s2 ry
          dsimp only at p
          cases hk : keysK ds with
          | none => rw [hk] at p; exact False.elim p
          | some κ =>
            rw [hk] at p
            dsimp only at p
            split at p
            · rename_i hz
              obtain ⟨ha, hz, hz2⟩ := hz
              have hds := keysK_is hk
              subst hds
              have hys := rps_keys ry
              subst hys
              have hsl := sizeLine_eq
              refine ⟨by rw [List.length_map] at hz2 ⊢; omega, fun b nb => ?_⟩
              have e3 := s2 _ _ (s _ _ e2)
              have sb := same_upd (o := .tup (κ.map kV)) nb
              have re3 := (re.same (s.trans s2)).same sb
              have rs3 := (rs.same (s.trans s2)).same sb
              have hl2 := rs.length
              rcases dco_T co (fun x hx => by
                obtain ⟨q, hq, rfl⟩ := List.mem_map.mp hx
                exact List.all_eq_true.mp ha q hq) with ⟨q1, rfl⟩ | ⟨ks, q1, rfl⟩
              · have hkv : kvs = [] := List.map_eq_nil_iff.mp q1
                subst hkv
                have hvs : vs = [] := rs
                subst hvs
                obtain ⟨js, ws, g1, g2, g3⟩ := put_rel (ks := []) keyT_kTD κ ((r.same s2).same sb) rfl rs3
                refine ⟨a, b, κ, [], rfl, rfl, upd_same, .inr ⟨sb _ _ e3, rfl⟩, by rw [hsl]; decide, p σ _ ?_⟩
                rw [show putK ([] : List (List Key × V)) κ v = js.zip ws from g1]
                exact re3.mutateD hi e1 (.inr ⟨by simp [putG, fndG], js, g2, rfl⟩) g3
              · obtain ⟨js, ws, g1, g2, g3⟩ := put_rel keyT_kTD κ ((r.same s2).same sb) q1 rs3
                have hl := keys_len q1 rs
                refine ⟨a, b, κ, _, rfl, rfl, upd_same, .inl (sb _ _ e3), by rw [List.length_zip]; omega, p σ _ ?_⟩
                rw [g1]
                refine re3.mutateD hi e1 (.inr ⟨?_, js, g2, rfl⟩) g3
                intro hnil
                have := List.map_eq_nil_iff.mp hnil
                unfold putG at this
                split at this
                · rename_i hs
                  rw [List.map_eq_nil_iff] at this
                  subst this
                  cases hs
                · simp at this
            · exact False.elim p
        | exc n es => rw [hj] at p; exact False.elim p
        | bad => rw [hj] at p; exact False.elim p
      | exc n es => rw [hc] at p; exact fun cls od H1 s x => p cls od σ H1 (re.same s) x
      | bad => rw [hc] at p; exact p
    · exact False.elim p
/-! loops -/
theorem FPost.inner {F M : Addr → Prop} {H₀ : Hp} {ρ : En} (re : RE K Gr F H₀ M ρ σ H) {r : Fw} (p : FPost K Gr W F H₀ M D r) : FPost K Gr W F H (Own ρ σ) D r := by
  cases r with
  | nx ρ' => exact fun σ' H' r => p σ' H' (re.outer r)
  | rt d => exact fun v H' f r => p v H' (Frm.outer re f) r
  | bk ρ' => exact fun σ' H' r => p σ' H' (re.outer r)
  | ct ρ' => exact fun σ' H' r => p σ' H' (re.outer r)
  | exc n ds ρ' => exact fun cls od σ' H' r x => p cls od σ' H' (re.outer r) x
  | bad => exact p
theorem st_for {ci : CI} {g : Tg} {b : CS} (h : tSt K Gr W (sFor ci g b) D σ H) : tFor (tIt K Gr W false ci) (tTg K g) (tSt K Gr W b) D σ H := by
  obtain ⟨F, H₀, M, ρ, re, p⟩ := h
  refine ⟨F, H₀, M, ρ, re, ?_⟩
  unfold sFor at p
  cases hc : ci ρ with
  | exc n ds => rw [hc] at p; exact fun cls od H1 s x => p cls od σ H1 (re.same s) x
  | bad => rw [hc] at p; exact p
  | ok ds =>
    rw [hc] at p
    intro J H1 s1 hz io
    have re1 := re.same s1
    have p1 : FPost K Gr W F H1 (Own ρ σ) D (forL g b ds ρ) := FPost.inner re1 p
    let Wd : Nat → St → Hp → Prop := fun i σ' H' => i ≤ ds.length ∧ ∃ ρ', RE K Gr F H1 (Own ρ σ) ρ' σ' H' ∧ FPost K Gr W F H1 (Own ρ σ) D (forL g b (ds.drop i) ρ')
    refine ⟨fun i m σ' H' => m = ds.length - i ∧ Wd i σ' H', ⟨_, rfl, Nat.zero_le _, ρ, re1.inner, by simpa using p1⟩, ?_⟩
    rintro i m σ' H' ⟨rfl, hi, ρ', r', q⟩
    have stay : Stay (FF F ρ σ) H1 H' := fun a o nf ha => r'.frm a o ha fun z => nf (.inr z)
    by_cases hlt : i < ds.length
    · right
      refine ⟨io.go i H' hlt stay, Wd (i + 1), fun σ'' H'' w => ⟨_, by omega, rfl, w⟩, fun x H2 y => ?_⟩
      have ei : ds[i]? = some ds[i] := by simp [hlt]
      obtain ⟨s2, rx⟩ := io.yld (FF F ρ' σ') (fun a z => by
        rcases z with z | z
        · exact .inl (.inl z)
        · rcases (r'.own a z).1 with e | e
          · exact .inr e
          · exact .inl (.inr e)) i H' H2 x ds[i] stay ei y
      rw [List.drop_eq_getElem_cons hlt] at q
      unfold forL at q
      cases ht : tgSet g ds[i] ρ' with
      | ok ρ1 =>
        rw [ht] at q
        refine tg_run (r'.same s2) rx ht fun σ3 re3 _ => ⟨F, H1, Own ρ σ, ρ1, re3, ?_⟩
        dsimp only at q
        cases hb : b ρ1 with
        | nx ρ2 => rw [hb] at q; exact fun σ4 H4 r4 => ⟨hlt, ρ2, r4, q⟩
        | ct ρ2 => rw [hb] at q; exact fun σ4 H4 r4 => ⟨hlt, ρ2, r4, q⟩
        | bk ρ2 => rw [hb] at q; exact q
        | rt d => rw [hb] at q; exact q
        | exc n es ρ2 => rw [hb] at q; exact q
        | bad => rw [hb] at q; exact q
      | exc n es => rw [ht] at q; exact False.elim q
      | bad => rw [ht] at q; exact False.elim q
    · left
      have e : i = ds.length := by omega
      subst e
      refine ⟨io.stop H' stay, ?_⟩
      rw [List.drop_length] at q
      exact q σ' H' r'
theorem st_while {t : CT} {b : CS} {n : Nat} (h : tSt K Gr W (sWhile n t b) D σ H) : tWhile (tTst K Gr W t) (tSt K Gr W b) D σ H := by
  obtain ⟨F, H₀, M, ρ, re, p⟩ := h
  refine ⟨fun m σ' H' => ∃ ρ', RE K Gr F H₀ M ρ' σ' H' ∧ FPost K Gr W F H₀ M D (whileL t b m ρ'), ⟨n, ρ, re, p⟩, ?_⟩
  rintro m σ' H' ⟨ρ', r', q⟩
  cases m with
  | zero => exact False.elim q
  | succ m =>
    refine ⟨F, H₀, M, ρ', r', ?_⟩
    unfold whileL at q
    cases ht : t ρ' with
    | ok k =>
      rw [ht] at q
      intro k' H1 s e
      subst e
      cases k with
      | false => exact q σ' H1 (r'.same s)
      | true =>
        refine ⟨fun σ2 H2 => ∃ ρ2, RE K Gr F H₀ M ρ2 σ2 H2 ∧ FPost K Gr W F H₀ M D (whileL t b m ρ2), fun σ2 H2 w => ⟨m, by omega, w⟩, F, H₀, M, ρ', r'.same s, ?_⟩
        dsimp only at q
        cases hb : b ρ' with
        | nx ρ2 => rw [hb] at q; exact fun σ4 H4 r4 => ⟨ρ2, r4, q⟩
        | ct ρ2 => rw [hb] at q; exact fun σ4 H4 r4 => ⟨ρ2, r4, q⟩
        | bk ρ2 => rw [hb] at q; exact q
        | rt d => rw [hb] at q; exact q
        | exc n es ρ2 => rw [hb] at q; exact q
        | bad => rw [hb] at q; exact q
    | exc n ds => rw [ht] at q; exact fun cls od H1 s x => q cls od σ' H1 (r'.same s) x
    | bad => rw [ht] at q; exact q
end
end Pv


/-! try with several clauses, each with or without a name -/
namespace Pv
open PySem PySem.Spec L2
open PyProof.Rows hiding St

/-- a clause: its class, its name's slot, its suite -/
structure Hd where
  c : Value
  o : Option Nat
  ts : Addr → Value → Option Addr → TS
/-- the ends of a suite whose name's slot is emptied behind it -/
def endsOf (D : Ends) : Option Nat → Ends
  | none => D
  | some i => { nx := fun σ H => D.nx (σ.set i none) H, rt := D.rt, bk := fun σ H => D.bk (σ.set i none) H, ct := fun σ H => D.ct (σ.set i none) H }
def putO (σ : St) (a : Addr) : Option Nat → St
  | none => σ
  | some i => σ.set i (some (.ref a))
def wHds (K : PySem.W.Frag) (Wo : WX) (D : Ends) : List Hd → WX
  | [] => Wo
  | z :: r => fun cls d σ H => ∃ b, PySem.W.exmOne K cls z.c = some b ∧ (b = true → ∀ a, H a = none → z.ts a cls d (endsOf D z.o) (putO σ a z.o) H) ∧ (b = false → wHds K Wo D r cls d σ H)
inductive Hds (X : Cx) : List ExceptHandler → List Hd → Prop
  | nil : Hds X [] []
  | cons {x : Str} {nm : Option Str} {z : Hd} {s0 : Stmt} {ss : List Stmt} {pa pb : Pos} {hs : List ExceptHandler} {l : List Hd} (hc : Names X x z.c)
      (hn : (nm = none ∧ z.o = none) ∨ ∃ n i, nm = some n ∧ z.o = some i ∧ X.N[i]? = some n ∧ X.env.kindOf n = some .local)
      (hb : ∀ (a : Addr) (oe : Obj) (cls : Value) (d : Option Addr) (pl : List (Addr × Obj)), Zc cls d oe → (∃ vs, oe.data = .fields vs) → PSs (X.suite a ((a, oe) :: pl)) (s0 :: ss) (z.ts a cls d)) (r : Hds X hs l) :
      Hds X (.ExceptHandler (some (.Name x pa)) nm (s0 :: ss) pb :: hs) (z :: l)
theorem sp_ends {X : Cx} {pins : List (Addr × Obj)} {a : Addr} {q : Addr × Obj} {pl : List (Addr × Obj)} {D : Ends} {f : Flow} {s : Shared} (ok : X.Ok) (h : SP (X.suite a (q :: (X.pn ++ pins))) [] D f s) : SP X pins D f s := by
  cases f with
  | next => obtain ⟨σ1, H1, I1, w1⟩ := h; exact ⟨σ1, H1, I1.unsuite ok, w1⟩
  | brk => obtain ⟨σ1, H1, I1, w1⟩ := h; exact ⟨σ1, H1, I1.unsuite ok, w1⟩
  | cont => obtain ⟨σ1, H1, I1, w1⟩ := h; exact ⟨σ1, H1, I1.unsuite ok, w1⟩
  | ret u => obtain ⟨v1, σ1, H1, I1, r1, w1⟩ := h; exact ⟨v1, σ1, H1, I1.unsuite ok, r1, w1⟩
theorem sp_tr {X : Cx} {pins pl : List (Addr × Obj)} {xe : Value → Shared → Prop} {D : Ends} {f : Flow} {s : Shared} (ok : X.Ok) (h : SP (X.tr (X.pn ++ pins) xe) pl D f s) : SP X pins D f s := by
  cases f with
  | next => obtain ⟨σ1, H1, I1, w1⟩ := h; exact ⟨σ1, H1, I1.ofTry ok, w1⟩
  | brk => obtain ⟨σ1, H1, I1, w1⟩ := h; exact ⟨σ1, H1, I1.ofTry ok, w1⟩
  | cont => obtain ⟨σ1, H1, I1, w1⟩ := h; exact ⟨σ1, H1, I1.ofTry ok, w1⟩
  | ret u => obtain ⟨v1, σ1, H1, I1, r1, w1⟩ := h; exact ⟨v1, σ1, H1, I1.ofTry ok, r1, w1⟩
theorem ps_hds {X : Cx} {body : List Stmt} {h0 : ExceptHandler} {hds : List ExceptHandler} {l : List Hd} {pos : Pos} {tb : WX → TS} {Wo : WX} (hN : X.N.Nodup) (hs : X.stack = X.env :: X.outer) (hf : X.env.frame = some X.env.locals) (tk : Takes X Wo)
    (hb : ∀ (W : WX) (pl : List (Addr × Obj)) (xe : Value → Shared → Prop), Takes (X.tr pl xe) W → PassesOwn (model X.prog X.w) X.A X.env xe → PSs (X.tr pl xe) body (tb W))
    (hh : Hds X (h0 :: hds) l) : PS X (.Try body (h0 :: hds) [] [] pos) (fun D σ H => tb (wHds X.K Wo D l) D σ H) := by
  refine ⟨fun pins s σ H D I wish => ?_⟩
  have okX := I.ok
  have hfrm : X.A.frames = some (X.env :: X.outer) := by rw [okX.frames, hs]
  let xe : Value → Shared → Prop := fun e s₁ => wpAny (model X.prog X.w) X.A (noteFrame e X.env) (fun _ s₂ => wpAny (model X.prog X.w) X.A (setFlight e none) (fun _ s₃ => wpAny (model X.prog X.w) X.A (handleBy e X.env (h0 :: hds)) (SP X pins D) X.xe s₃) X.xe s₂) X.xe s₁
  have htk : Takes (X.tr (X.pn ++ pins) xe) (wHds X.K Wo D l) := by
    intro u s' flown
    obtain ⟨a, B, sI, pl, σ1, H1, cls, d, rfl, I1, nb, up, sky, na, os, ag, w⟩ := flown
    have J : Inv X pins σ1 H1 sI := I1.ofTry okX
    have sk : Sky B (X.env :: X.outer) a (Zc cls d) X.env.locals s'.heap := hs ▸ sky
    show wpAny (model X.prog X.w) X.A (noteFrame (.ref a) X.env) _ _ _
    refine Sky.land Zc.steady hfrm hf sk fun g1 fl1 up1 => ?_
    have J1 : Inv X pins σ1 H1 { s' with heap := g1 } := J.landed nb fl1.1 (up.trans up1) os ag
    obtain ⟨o1, w1, ho1, hz1, hd1⟩ := fl1.there
    have out : a ∉ frs (X.env :: X.outer) := fun hm => by
      obtain ⟨_, o2, e2, no⟩ := fl1.2.2.1.mem hm
      rw [ho1] at e2; cases e2
      exact no _ hd1
    have aL : a ≠ X.env.locals := fun z => out (List.mem_filterMap.mpr ⟨X.env, List.mem_cons_self, by rw [hf, z]⟩)
    have aF : a ∉ X.fs := fun hm => by
      obtain ⟨en, hen, q⟩ := List.mem_filterMap.mp hm
      exact out (List.mem_filterMap.mpr ⟨en, List.mem_cons_of_mem _ hen, q⟩)
    have S1 := J1.suite ho1 hd1 na aL aF
    have clauses : ∀ {hs' : List ExceptHandler} {l' : List Hd}, Hds X hs' l' → wHds X.K Wo D l' cls d σ1 H1 → wpAny (model X.prog X.w) X.A (handleBy (.ref a) X.env hs') (SP X pins D) X.xe { s' with heap := g1 } := by
      intro hs' l' hk
      induction hk with
      | nil =>
        intro w
        refine wpAny_handleBy_nil ?_
        obtain ⟨k1, k2, k3, oe, vs, T, oT, ts', he, hz, hd, h1, hr⟩ := id fl1
        unfold PySem.passOn
        refine wpAny_bind (wpAny_field he hd h1 ?_)
        have hne : ¬ ((Value.ref T == Value.none) = true) := by simp
        rw [if_neg hne]
        have on : wpAny (model X.prog X.w) X.A (setFlight (.ref a) X.env.frame) (fun _ s4 => wpAny (model X.prog X.w) X.A (throw (.ref a) : Sem Flow) (SP X pins D) X.xe s4) X.xe { s' with heap := g1 } := by
          rw [hf]
          refine HandSPX.setFlight_upZ fl1 fun g2 held up2 => wpAny_throw (tk _ _ ⟨a, B, sI, pins, σ1, H1, cls, d, rfl, J, nb, (up.trans up1).trans up2, .inr (.inr (hs.symm ▸ held)), na, os, ag, w⟩)
        first | exact wpAny_bind (wpAny_pure (wpAny_bind on)) | exact wpAny_bind on
      | @cons x nm z s0 ss pa pb hs2 l2 hc hn hsu r ih =>
        intro w
        obtain ⟨b, hb1, yes, no⟩ := w
        have LT : PySem.W.Looks (model X.prog X.w) g1 (typeOf (.ref a)) cls := fun A Q E s kk q => wpAny_typeOf_ref (kk _ _ ho1) (by rw [hz1.1]; exact q)
        have LM := PySem.W.exm_one (M := model X.prog X.w) (J1.kIn) LT hb1
        refine wpAny_handleBy_cons (codeAny_handlers_test ?_) (by intro q; cases q)
        have ld : ∀ {Q E : Value → Shared → Prop}, Q z.c { s' with heap := g1 } → wpAny (model X.prog X.w) (X.A.mark (some (.ref a))) (eval (.Name x pa) X.env) Q E { s' with heap := g1 } := fun {Q E} q => by
          obtain ⟨hg, hdb, hm | ⟨hm, hv, hnn⟩⟩ := hc
          · exact ld_glob (X := X.suite a ((a, o1) :: (X.pn ++ pins))) S1 hg hm q hdb
          · exact ld_blt (X := X.suite a ((a, o1) :: (X.pn ++ pins))) S1 hg hm hv q hnn hdb
        refine ld (LM.here ?_)
        cases b with
        | false => exact ih (no rfl)
        | true =>
          rcases hn with ⟨rfl, hz0⟩ | ⟨n, i, rfl, hz0, hi, hl⟩
          · refine codeAny_handlers_suite ?_
            refine HandSPX.lands_againZ fl1 fun g2 fl2 up2 => ?_
            have J2 : Inv X pins σ1 H1 { s' with heap := g2 } := J.landed nb fl2.1 ((up.trans up1).trans up2) os ag
            obtain ⟨o2, w2, ho2, hz2, hd2⟩ := fl2.there
            have go := yes rfl a na
            rw [hz0] at go
            exact wpAny_mono ((hsu a o2 cls d (X.pn ++ pins) hz2 ⟨_, hd2⟩).run [] _ _ _ _ (J2.suite ho2 hd2 na aL aF) go) (fun f s6 e6 => sp_ends (pl := []) okX e6) (fun _ _ q => False.elim q)
          · refine codeAny_handlers_suite_as ?_
            refine HandSPX.lands_againZ fl1 fun g2 fl2 up2 => ?_
            have J2 : Inv X pins σ1 H1 { s' with heap := g2 } := J.landed nb fl2.1 ((up.trans up1).trans up2) os ag
            obtain ⟨o2, w2, ho2, hz2, hd2⟩ := fl2.there
            have go := yes rfl a na
            rw [hz0] at go
            refine store_ok (X := X.suite a ((a, o2) :: (X.pn ++ pins))) (v := .ref a) (J2.suite ho2 hd2 na aL aF) hN hi (.inl hl) rfl (fun s5 S5 => ?_) (.inr hl)
            refine wpAny_mono ((hsu a o2 cls d (X.pn ++ pins) hz2 ⟨_, hd2⟩).run [] s5 _ H1 _ S5 go) (fun f s6 e6 => ?_) (fun _ _ q => False.elim q)
            have clear : ∀ {σ6 : St} {H6 : Hp} {Q : Shared → Prop}, Inv (X.suite a ((a, o2) :: (X.pn ++ pins))) [] σ6 H6 s6 → (∀ s7, Inv X pins (σ6.set i none) H6 s7 → Q s7) →
              wpAny (model X.prog X.w) X.A (do bindName X.env n .none; unbindBehindTheSuite X.env n pb) (fun _ s7 => Q s7) X.xe s6 := fun {σ6 H6 Q} S6 hq => gone_ok (S6.unsuite okX) hN hi hl hq
            cases f with
            | next => obtain ⟨σ6, H6, S6, q6⟩ := e6; exact clear S6 fun s7 J7 => ⟨_, _, J7, q6⟩
            | brk => obtain ⟨σ6, H6, S6, q6⟩ := e6; exact clear S6 fun s7 J7 => ⟨_, _, J7, q6⟩
            | cont => obtain ⟨σ6, H6, S6, q6⟩ := e6; exact clear S6 fun s7 J7 => ⟨_, _, J7, q6⟩
            | ret u => obtain ⟨v6, σ6, H6, S6, r6, q6⟩ := e6; exact clear S6 fun s7 J7 => ⟨_, _, _, J7, r6, q6⟩
    exact clauses hh w
  refine wpAny_Try_except ?_
  refine wpAny_mono ((hb _ (X.pn ++ pins) xe htk PassesOwn.looking).run [] s σ H D (I.toTry _) wish) (fun f s1 e1 => ?_) (fun e s1 he => he)
  have e2 : SP X pins D f s1 := sp_tr okX e1
  cases f with
  | next => obtain ⟨σ1, H1, I1, w1⟩ := e2; exact wpAny_execs_nil ⟨σ1, H1, I1, w1⟩
  | brk => exact e2
  | cont => exact e2
  | ret u => exact e2
end Pv


/-! raise, try; the statements' compiler -/
namespace Pv
open PySem PySem.Spec L2
open PyProof.Rows hiding St

structure HdC where
  t : Str
  o : Option Nat
  su : CS
def noX (ρ : En) : Bool := ρ.all fun s => match s with
  | .exn _ _ => false
  | _ => true
def clr (i : Nat) (ρ : En) (k : En → Fw) : Fw := if noX (ρ.set i .no) = true then k (ρ.set i .no) else .bad
def suiteF (h : HdC) (n : Str) (ds : List PyData) (ρ : En) : Fw := match h.o with
  | none => (match h.su ρ with
    | .exc _ _ _ => .bad
    | r => r)
  | some i => (match h.su (ρ.set i (.exn n ds)) with
    | .nx ρ' => clr i ρ' .nx
    | .bk ρ' => clr i ρ' .bk
    | .ct ρ' => clr i ρ' .ct
    | .rt d => .rt d
    | _ => .bad)
def tryH (G : GI) : List HdC → Str → List PyData → En → Fw
  | [], n, ds, ρ => .exc n ds ρ
  | h :: r, n, ds, ρ => if G.has n = true then (if h.t ∈ G.ups n then suiteF h n ds ρ else tryH G r n ds ρ) else .bad
def sTry (G : GI) (b : CS) (hs : List HdC) : CS := fun ρ => match b ρ with
  | .exc n ds ρ' => tryH G hs n ds ρ'
  | r => r
def sRaise (G : GI) (x : Str) (cs : List CE) : CS := fun ρ => match cAll cs ρ with
  | .ok ds => if G.flds x = [] then .exc x [] ρ else if ds.length = (G.flds x).length then .exc x ds.reverse ρ else .bad
  | .exc n ds => .exc n ds ρ
  | .bad => .bad
section
variable {K : PySem.W.Frag} {Gr : Gx} {F M : Addr → Prop} {H₀ H H' : Hp} {ρ : En} {σ : St}
theorem RE.noex (r : RE K Gr F H₀ M ρ σ H) (hx : Gr.sx = none) {z : Option (Addr × Addr × Option Addr)} : RE K { Gr with sx := z } F H₀ M ρ σ H :=
  ⟨r.len, r.pl, r.ow, r.un, r.frm, r.own, r.fn, fun i n ds e => by
    obtain ⟨a, C, od, e1, _⟩ := r.ex i n ds e
    rw [hx] at e1; cases e1⟩
theorem RE.unex {z : Option (Addr × Addr × Option Addr)} (r : RE K { Gr with sx := z } F H₀ M ρ σ H) (hn : noX ρ = true) : RE K Gr F H₀ M ρ σ H :=
  ⟨r.len, r.pl, r.ow, r.un, r.frm, r.own, r.fn, fun i n ds e => by
    have := List.all_eq_true.mp hn _ (List.mem_of_getElem? e)
    cases this⟩
/-- the caught one at its name -/
theorem RE.caught {a C : Addr} {od : Option Addr} {n : Str} {ds : List PyData} {i : Nat} (r : RE K { Gr with sx := some (a, C, od) } F H₀ M ρ σ H) (x : XR K Gr (FF F ρ σ) H n ds (.ref C) od) :
    RE K { Gr with sx := some (a, C, od) } F H₀ M (ρ.set i (.exn n ds)) (σ.set i (some (.ref a))) H := by
  have nn : ∀ d, Sl.exn n ds ≠ .dat d true := fun d z => by cases z
  have hl : ∀ b, FF F (ρ.set i (.exn n ds)) (σ.set i (some (.ref a))) b → FF F ρ σ b := fun b z => z.imp id (own_set nn)
  refine ⟨by simp [r.len], fun j d e => ?_, fun j d e => ?_, fun j l d e b e1 e2 e3 e4 => ?_, r.frm, fun b z => r.own b (own_set nn z), r.fn, fun j m es e => ?_⟩
  · rcases get_new e with ⟨_, _, e⟩ | ⟨hij, e⟩
    · cases e
    · obtain ⟨v, e1, rv⟩ := r.pl j d e
      exact ⟨v, by rw [get_oth hij]; exact e1, rv.less hl⟩
  · rcases get_new e with ⟨_, _, e⟩ | ⟨hij, e⟩
    · cases e
    · obtain ⟨b, e1, rv⟩ := r.ow j d e
      exact ⟨b, by rw [get_oth hij]; exact e1, rv.less hl⟩
  · rcases get_new e1 with ⟨_, _, e1⟩ | ⟨h1, e1⟩
    · cases e1
    · rcases get_new e2 with ⟨_, _, e2⟩ | ⟨h2, e2⟩
      · cases e2
      · rw [get_oth h1] at e3
        rw [get_oth h2] at e4
        exact r.un j l d e b e1 e2 e3 e4
  · rcases get_new e with ⟨hij, hlt, e⟩ | ⟨hij, e⟩
    · cases e
      subst hij
      have x' : XR K { Gr with sx := some (a, C, od) } (FF F ρ σ) H n ds (.ref C) od := x
      exact ⟨a, C, od, rfl, get_set (by rw [← r.len]; exact hlt), x'.less hl⟩
    · obtain ⟨b, C', od', e1, e2, y⟩ := r.ex j m es e
      exact ⟨b, C', od', e1, by rw [get_oth hij]; exact e2, y.less hl⟩
/-- a clause's reading -/
def suTS (K : PySem.W.Frag) (Gr : Gx) (h : HdC) : Addr → Value → Option Addr → TS := fun a cls d D σ H => match h.o with
  | none => tSt K Gr W0 h.su D σ H
  | some _ => ∃ C, cls = .ref C ∧ tSt K { Gr with sx := some (a, C, d) } W0 h.su D σ H
def hdOf (K : PySem.W.Frag) (Gr : Gx) (cv : Str → Value) (h : HdC) : Hd := ⟨cv h.t, h.o, suTS K Gr h⟩
theorem suite_run {h : HdC} {n : Str} {ds : List PyData} {D : Ends} {W : WX} {a C : Addr} {od : Option Addr} (hx : Gr.sx = none) (r : RE K Gr F H₀ M ρ σ H) (x : XR K Gr (FF F ρ σ) H n ds (.ref C) od) (p : FPost K Gr W F H₀ M D (suiteF h n ds ρ)) :
    suTS K Gr h a (.ref C) od (endsOf D h.o) (putO σ a h.o) H := by
  obtain ⟨t, o, su⟩ := h
  cases o with
  | none =>
    refine ⟨F, H₀, M, ρ, r, ?_⟩
    unfold suiteF at p
    dsimp only at p
    show FPost K Gr W0 F H₀ M D (su ρ)
    cases hs : su ρ with
    | exc m es ρ' => rw [hs] at p; exact False.elim p
    | nx ρ' => rw [hs] at p; exact p
    | rt d => rw [hs] at p; exact p
    | bk ρ' => rw [hs] at p; exact p
    | ct ρ' => rw [hs] at p; exact p
    | bad => rw [hs] at p; exact p
  | some i =>
    refine ⟨C, rfl, F, H₀, M, ρ.set i (.exn n ds), RE.caught (r.noex hx) x, ?_⟩
    unfold suiteF at p
    dsimp only at p
    show FPost K { Gr with sx := some (a, C, od) } W0 F H₀ M (endsOf D (some i)) (su (ρ.set i (.exn n ds)))
    have cl : ∀ {ρ' : En} {k : En → Fw} {G' : St → Hp → Prop}, FPost K Gr W F H₀ M D (clr i ρ' k) → (FPost K Gr W F H₀ M D (k (ρ'.set i .no)) → ∀ σ' H', RE K Gr F H₀ M (ρ'.set i .no) σ' H' → G' σ' H') →
        ∀ σ' H', RE K { Gr with sx := some (a, C, od) } F H₀ M ρ' σ' H' → G' (σ'.set i none) H' := by
      intro ρ' k G' q hk σ' H' r'
      unfold clr at q
      split at q
      · rename_i hn
        exact hk q _ _ (RE.unex (r'.put (s := .no) (u := none) trivial) hn)
      · exact False.elim q
    cases hs : su (ρ.set i (.exn n ds)) with
    | exc m es ρ' => rw [hs] at p; exact False.elim p
    | bad => rw [hs] at p; exact False.elim p
    | rt d => rw [hs] at p; exact p
    | nx ρ' => rw [hs] at p; exact cl p fun q => q
    | bk ρ' => rw [hs] at p; exact cl p fun q => q
    | ct ρ' => rw [hs] at p; exact cl p fun q => q
theorem hds_run {G : GI} {mg : Str → Option Value} {cv : Str → Value} {D : Ends} {W : WX} (hx : Gr.sx = none) (hm : Gr.mg = mg) (hc : ∀ n C, G.has n = true → mg n = some (.ref C) → ClOk G K mg n C) {n : Str} {ds : List PyData} {C : Addr} {od : Option Addr} (r : RE K Gr F H₀ M ρ σ H) (x : XR K Gr (FF F ρ σ) H n ds (.ref C) od) :
    ∀ {hs : List HdC}, (∀ h ∈ hs, ClsOf G mg h.t (cv h.t)) → FPost K Gr W F H₀ M D (tryH G hs n ds ρ) → wHds K W D (hs.map (hdOf K Gr cv)) (.ref C) od σ H
  | [], _, p => p (.ref C) od σ H r x
  | h :: hs, hv, p => by
    unfold tryH at p
    split at p
    · rename_i hn
      have hC : mg n = some (.ref C) := by
        obtain ⟨C2, x1, x2, _⟩ := x
        cases x2
        rw [← hm]; exact x1
      have c := hc n C hn hC
      refine ⟨decide (h.t ∈ G.ups n), c.ex _ _ (hv h (by simp)), fun hy a ha => ?_, fun hno => ?_⟩
      · rw [if_pos (of_decide_eq_true hy)] at p
        exact suite_run hx r x p
      · rw [if_neg (of_decide_eq_false hno)] at p
        exact hds_run hx hm hc r x (fun z hz => hv z (List.mem_cons_of_mem _ hz)) p
    · exact False.elim p
theorem st_try {G : GI} {mg : Str → Option Value} {cv : Str → Value} {D : Ends} {W : WX} {b : CS} {hs : List HdC} (hx : Gr.sx = none) (hm : Gr.mg = mg) (hc : ∀ n C, G.has n = true → mg n = some (.ref C) → ClOk G K mg n C) (hv : ∀ h ∈ hs, ClsOf G mg h.t (cv h.t)) (h : tSt K Gr W (sTry G b hs) D σ H) :
    tSt K Gr (wHds K W D (hs.map (hdOf K Gr cv))) b D σ H := by
  obtain ⟨F, H₀, M, ρ, re, p⟩ := h
  refine ⟨F, H₀, M, ρ, re, ?_⟩
  unfold sTry at p
  cases hb : b ρ with
  | nx ρ' => rw [hb] at p; exact p
  | rt d => rw [hb] at p; exact p
  | bk ρ' => rw [hb] at p; exact p
  | ct ρ' => rw [hb] at p; exact p
  | bad => rw [hb] at p; exact p
  | exc n ds ρ' =>
    rw [hb] at p
    intro cls od σ' H' r' x
    obtain ⟨C, x1, rfl, x3⟩ := id x
    exact hds_run hx hm hc r' x hv p
end
section
variable {K : PySem.W.Frag} {Gr : Gx} {D : Ends} {σ : St} {H : Hp} {W : WX}
theorem rps_rev {F : Addr → Prop} {ds : List PyData} {vs : List V} (h : Rps K F H ds vs) : Rps K F H ds.reverse vs.reverse := Rps.rev h
theorem st_raise {G : GI} {x : Str} {C : Addr} {cs : List CE} (hf : Gr.flds = G.flds) (hm : Gr.mg x = some (.ref C)) (h : tSt K Gr W (sRaise G x cs) D σ H) :
    tEs K Gr W (cAll cs) σ H fun vs H1 => (G.flds x = [] → W (.ref C) none σ H1) ∧ (G.flds x ≠ [] → vs.length = (G.flds x).length ∧ ∀ dx, H1 dx = none → W (.ref C) (some dx) σ (upd H1 dx (.xd ((G.flds x).zip vs.reverse)))) := by
  obtain ⟨F, H₀, M, ρ, re, p⟩ := h
  refine ⟨F, H₀, M, ρ, re, ?_⟩
  unfold sRaise at p
  cases hc : cAll cs ρ with
  | ok ds =>
    rw [hc] at p
    dsimp only at p
    intro vs H1 s r
    split at p
    · rename_i hn
      exact ⟨fun _ => p (.ref C) none σ H1 (re.same s) ⟨C, hm, rfl, .inl ⟨by rw [hf]; exact hn, rfl, rfl⟩⟩, fun z => absurd hn z⟩
    · rename_i hn
      split at p
      · rename_i hl
        have hlen := r.length
        refine ⟨fun z => absurd z hn, fun _ => ⟨by omega, fun dx ndx => ?_⟩⟩
        have s2 := same_upd (o := .xd ((G.flds x).zip vs.reverse)) ndx
        refine p (.ref C) (some dx) σ _ (re.same (s.trans s2)) ⟨C, hm, rfl, .inr ⟨by rw [hf]; exact hn, dx, vs.reverse, rfl, by rw [hf]; exact upd_same, by rw [hf]; simp; omega, (Rps.rev r).same s2⟩⟩
      · exact False.elim p
  | exc n ds => rw [hc] at p; exact fun cls od H1 s x => p cls od σ H1 (re.same s) x
  | bad => rw [hc] at p; exact p
end
end Pv


/-! statements: compiled, sound -/
namespace Pv
open PySem PySem.Spec L2
open PyProof.Rows hiding St

/-! which lists of one's own a text hands on -/
mutual
def leak : Nat → Lc → Expr → List Nat
  | 0, _, _ => []
  | n + 1, L, e => match e with
    | .Name x _ => (L.slot x).toList
    | e => leakR n L e
/-- at a place that only reads -/
def leakR : Nat → Lc → Expr → List Nat
  | 0, _, _ => []
  | n + 1, L, e => match e with
    | .IfExp t a b _ => leakR n L t ++ leak n L a ++ leak n L b
    | .BoolOp _ es _ => leaks n L es
    | .Tuple es _ _ => leaks n L es
    | .List es _ => leaks n L es
    | .Dict _ vs _ => leaks n L vs
    | .BinOp a _ b _ => leakR n L a ++ leakR n L b
    | .UnaryOp _ a _ => leakR n L a
    | .Compare a _ bs _ => leakR n L a ++ leakRs n L bs
    | .Subscript a i _ => leakR n L a ++ leakR n L i
    | .Call _ as _ _ => leakRs n L as
    | .ListComp elt [⟨_, it, ifs, _⟩] sc _ => leakR n L it ++ leak n { N := L.N, nm := sc.names } elt ++ leakRs n { N := L.N, nm := sc.names } ifs
    | _ => []
def leaks : Nat → Lc → List Expr → List Nat
  | 0, _, _ => []
  | n + 1, L, es => match es with
    | [] => []
    | e :: r => leak n L e ++ leaks n L r
def leakRs : Nat → Lc → List Expr → List Nat
  | 0, _, _ => []
  | n + 1, L, es => match es with
    | [] => []
    | e :: r => leakR n L e ++ leakRs n L r
end
def noComp : Expr → Bool
  | .ListComp _ _ _ _ => false
  | .SetComp _ _ _ _ => false
  | .DictComp _ _ _ _ _ => false
  | _ => true
def noTup : Expr → Bool
  | .Tuple _ _ _ => false
  | _ => true
/-- the comprehension's value goes to the name within -/
def swB (L : Lc) (y : Str) (sc : Scope) (py lp : Pos) : Bool := (L.nm.lookup y == some .local) && (py.line == lp.line) && !(sc.names.any fun (n, k) => n == y && (k == .local || k == .cell))
def oneName : Expr → Bool
  | .Call (.Name _ _) [] [] _ => false
  | _ => true
variable (G : GI) (Φ : Ph) (wn : Nat)
mutual
def cS : Nat → Lc → Stmt → Option CS
  | 0, _, _ => none
  | n + 1, L, s => match s with
    | .Expr e pos => (match e with
      | .Constant (.str _) _ _ => some sNx
      | .Call (.Attribute (.Name x px) m apos) [a] [] cpos => if m = ("append" : Str) ∧ notStar a = true ∧ (apos.endLine == cpos.line) = true then (do
        let i ← L.slot x
        let (_, c) ← cE G Φ n L a
        some (disow (leak n L a) (sApp i c))) else none
      | e => if noComp e = true then (do
        let (_, c) ← cE G Φ n L e
        some (sDrop c)) else none)
    | .Assign [t] e pos => (match t with
      | .Name x px => (do
        let i ← L.lslot x
        match e with
        | .ListComp elt [⟨tg, it, ifs, ia⟩] sc lp => if ia = 0 ∧ (L.calm && notSet it) = true then (do
          let (_, c) ← lcParts G Φ n L elt tg it ifs sc
          some (disow (leak n L e) (sSet i (L.keeps x) c))) else none
        | e => if noComp e = true then (do
          let (fr, c) ← cE G Φ n L e
          some (disow (leak n L e) (sSet i (fr && L.keeps x) c))) else none)
      | .Tuple es k p => if noComp e && noTup e && L.calm then (do
        let g ← tgOf L (.Tuple es k p)
        let (_, c) ← cE G Φ n L e
        some (disow (leak n L e) (sTg g c))) else none
      | .Subscript (.Name x px) (.Tuple es kk tq) tp => if noComp e = true then (do
        let i ← L.slot x
        let cs ← cEs G Φ n L es
        let (_, c) ← cE G Φ n L e
        some (disow (leak n L e) (sPutT i cs c))) else none
      | .Subscript (.Name x px) j tp => if (noComp e && !slc j) = true then (do
        let i ← L.slot x
        let cj ← cB G Φ n L j
        let (_, c) ← cE G Φ n L e
        some (disow (leak n L e) (sPut i cj c))) else none
      | _ => none)
    | .Return o pos => (match o with
      | none => some sRetN
      | some e => (do
        let (_, c) ← cE G Φ n L e
        some (disow (leak n L e) (sRet c))))
    | .If t a b pos => (do
      let ct ← cT G Φ n L t
      let ca ← cSs n L a
      let cb ← cSs n L b
      some (sIf ct ca cb))
    | .For tg it body [] pos => if (L.calm && notSet it) = true then (do
      let g ← tgOf L tg
      let ci ← cI G Φ n L false it
      let cb ← cSs n L body
      some (disow (leak n L it) (sFor ci g cb))) else none
    | .While t body [] pos => if L.calm = true then (do
      let ct ← cT G Φ n L t
      let cb ← cSs n L body
      some (sWhile wn ct cb)) else none
    | .Pass _ => some sNx
    | .Break _ => some sBk
    | .Continue _ => some sCt
    | .Raise (some (.Call (.Name x px) (a :: as) [] cp)) none pos => if (L.calm && L.glob x && G.has x && (a :: as).all notStar && decide ((a :: as).length ≤ 1000)) = true then (do
      let cs ← cEs G Φ n L (a :: as)
      some (disow (leaks n L (a :: as)) (sRaise G x cs))) else none
    | .Try body (h :: hs) [] [] pos => if L.calm = true then (do
      let cb ← cSs n L body
      let hc ← cHs n L (h :: hs)
      some (sTry G cb hc)) else none
    | _ => none
def cSs : Nat → Lc → List Stmt → Option CS
  | 0, _, _ => none
  | n + 1, L, ss => match ss with
    | [] => some sNx
    | s :: r => (do
      let c ← cS n L s
      let d ← cSs n L r
      some (sSeq c d))
def cHs : Nat → Lc → List ExceptHandler → Option (List HdC)
  | 0, _, _ => none
  | n + 1, L, hs => match hs with
    | [] => some []
    | .ExceptHandler (some (.Name t _)) o (s :: ss) _ :: r => if L.glob t && G.clsName t then (do
      let i ← (match o with
        | none => some none
        | some x => if L.nm.lookup x = some .local then (L.lslot x).map some else none)
      let su ← cSs n { L with calm := false, en := o } (s :: ss)
      let l ← cHs n L r
      some (⟨t, i, su⟩ :: l)) else none
    | _ => none
end
end Pv


namespace Pv
open PySem PySem.Spec L2
open PyProof.Rows hiding St
open Classical in
noncomputable def cvOf (G : GI) (mg : Str → Option Value) (t : Str) : Value := if h : ∃ cv, ClsOf G mg t cv then choose h else .none
theorem cvOf_ok {G : GI} {mg : Str → Option Value} {t : Str} (h : ∃ cv, ClsOf G mg t cv) : ClsOf G mg t (cvOf G mg t) := by
  unfold cvOf
  rw [dif_pos h]
  exact Classical.choose_spec h
section
variable {Gr : Gx} {G : GI} {Φ : Ph} {k : Nat} {L : Lc} {X : Cx} {W : WX}
theorem GOk.sx {P : Program} {w : World} {K : PySem.W.Frag} {mg : Str → Option Value} {base : Heap} {z : Option (Addr × Addr × Option Addr)} (g : GOk Gr G Φ k P w K mg base) : GOk { Gr with sx := z } G Φ k P w K mg base :=
  ⟨g.bi, g.fns, g.cls, g.nms, g.mkx, g.cons⟩
theorem SOk.suite (ok : SOk Gr G Φ k L X W) {o : Option Str} {a C : Addr} {oe : Obj} {od : Option Addr} {pl : List (Addr × Obj)} (hz : Zc (.ref C) od oe) (hf : ∃ vs, oe.data = .fields vs) :
    SOk { Gr with sx := some (a, C, od) } G Φ k { L with calm := false, en := o } (X.suite a ((a, oe) :: pl)) W0 where
  calm := fun z => by cases z
  room := fun z => by cases z
  un := ok.un
  tk := takes0
  nm := ⟨ok.nm.N, ok.nm.nd, ok.nm.loc, ok.nm.cel, ok.nm.fre, ok.nm.glo, ok.nm.fn⟩
  gl := ok.gl.sx
  fl := ok.fl
  mg := ok.mg
  sxc := fun z => by cases z
  sx := fun a' C' od' e => by
    cases e
    exact ⟨X, oe, pl, rfl, hz, hf⟩
  kd := ok.kd
  pa := fun z => by cases z
  st := ok.st
  fr := ok.fr
theorem SOk.suite0 (ok : SOk Gr G Φ k L X W) (hx : Gr.sx = none) {o : Option Str} {a : Addr} {oe : Obj} {pl : List (Addr × Obj)} : SOk Gr G Φ k { L with calm := false, en := o } (X.suite a ((a, oe) :: pl)) W0 where
  calm := fun z => by cases z
  room := fun z => by cases z
  un := ok.un
  tk := takes0
  nm := ⟨ok.nm.N, ok.nm.nd, ok.nm.loc, ok.nm.cel, ok.nm.fre, ok.nm.glo, ok.nm.fn⟩
  gl := ok.gl
  fl := ok.fl
  mg := ok.mg
  sxc := fun z => by cases z
  sx := fun a' C' od' e => by rw [hx] at e; cases e
  kd := ok.kd
  pa := fun z => by cases z
  st := ok.st
  fr := ok.fr
theorem SOk.tr (ok : SOk Gr G Φ k L X W) (hx : Gr.sx = none) {W' : WX} {pl : List (Addr × Obj)} {xe : Value → Shared → Prop} (tk : Takes (X.tr pl xe) W') (pa : PassesOwn (model X.prog X.w) X.A X.env xe) : SOk Gr G Φ k L (X.tr pl xe) W' where
  calm := ok.calm
  room := ok.room
  un := ok.un
  tk := tk
  nm := ⟨ok.nm.N, ok.nm.nd, ok.nm.loc, ok.nm.cel, ok.nm.fre, ok.nm.glo, ok.nm.fn⟩
  gl := ok.gl
  fl := ok.fl
  mg := ok.mg
  sxc := ok.sxc
  sx := fun a' C' od' e => by rw [hx] at e; cases e
  kd := ok.kd
  pa := fun _ => pa
  st := ok.st
  fr := ok.fr
theorem sw_no {e : Expr} {t : Option Expr} {ln : Nat} {env : Env} (h : noComp e = true) : swapsWith e t ln env = pure false := by
  cases e <;> first | rfl | cases h
theorem sw_lc {elt : Expr} {gs : List Comprehension} {sc : Scope} {lp py : Pos} {y : Str} {ln : Nat} {env : Env} : swapsWith (.ListComp elt gs sc lp) (some (.Name y py)) ln env = pure (env.blockKind == .function && env.kindOf y == some .local && py.line == lp.line && !(sc.names.any fun (n, k) => n == y && (k == .local || k == .cell))) := rfl
theorem stores_no {es : List Expr} {j : Nat} {p : Pos} {e : Expr} {env : Env} (h : noTup e = true) : swappedStores [.Tuple es j p] e env = pure none := by
  cases e <;> first | rfl | cases h
theorem asg_sub {o j : Expr} {tp : Pos} {env : Env} (h : (!slc j) = true) : ∀ v, assign (.Subscript o j tp) env v = (do
      let ov ← holding [v] (eval o env)
      let iv ← holding [v, ov] (eval j env)
      standAt tp
      holding [v, ov, iv] (setItem ov iv v)
      release [v, ov, iv] []) := by
  cases j <;> first | (intro v; rfl) | cases h
theorem bk_fn (ok : SOk Gr G Φ k L X W) : (X.env.blockKind == ScopeKind.function) = true := by
  unfold Env.blockKind
  rw [ok.kd]
  rfl
end
structure SndS (G : GI) (Φ : Ph) (wn n : Nat) : Prop where
  S : ∀ {Gr : Gx} {k : Nat} {L : Lc} {X : Cx} {W : WX}, SOk Gr G Φ k L X W → ∀ (s : Stmt) (c : CS), cS G Φ wn n L s = some c → PS X s (tSt X.K Gr W c)
  Ss : ∀ {Gr : Gx} {k : Nat} {L : Lc} {X : Cx} {W : WX}, SOk Gr G Φ k L X W → ∀ (ss : List Stmt) (c : CS), cSs G Φ wn n L ss = some c → PSs X ss (tSt X.K Gr W c)
  Hs : ∀ {Gr : Gx} {k : Nat} {L : Lc} {X : Cx} {W : WX}, SOk Gr G Φ k L X W → Gr.sx = none → ∀ (hs : List ExceptHandler) (hc : List HdC), cHs G Φ wn n L hs = some hc → Hds X hs (hc.map (hdOf X.K Gr (cvOf G X.mg))) ∧ ∀ h ∈ hc, ClsOf G X.mg h.t (cvOf G X.mg h.t)
section
variable {Gr : Gx} {G : GI} {Φ : Ph} {wn n k : Nat} {L : Lc} {X : Cx} {W : WX}
theorem S_expr0 (ok : SOk Gr G Φ k L X W) {e : Expr} {pos : Pos} {c : CS} (h : (if noComp e = true then (cE G Φ n L e >>= fun y => some (sDrop y.2)) else none) = some c) : PS X (.Expr e pos) (tSt X.K Gr W c) := by
  split at h
  · rename_i hn
    obtain ⟨⟨fr, c'⟩, h1, h⟩ := obind h
    cases h
    exact PS.imp (ps_expr ((snd n).E ok.toEOk e fr c' h1).e (sw_no hn)) fun D σ H => st_drop
  · cases h
theorem S_app (ok : SOk Gr G Φ k L X W) {x : Str} {px apos cpos pos : Pos} {a : Expr} {i : Nat} {fr : Bool} {c : CE} (hs : notStar a = true) (hl : (apos.endLine == cpos.line) = true) (hi : L.slot x = some i) (hc : cE G Φ n L a = some (fr, c)) :
    PS X (.Expr (.Call (.Attribute (.Name x px) "append" apos) [a] [] cpos) pos) (tSt X.K Gr W (sApp i c)) := by
  have s := slot_ok ok.nm hi
  exact PS.imp (ps_expr (pe_bm PySem.F.plainAttrs_list PySem.F.slot_list_append PySem.F.type_list_append mt_append (pe_var s.at_ s.vis s.d1 s.d2) (pa_cons ((snd n).E ok.toEOk a fr c hc).e pa_nil (star_cons hs)) rfl (by rw [star_cons hs]; rfl) hl (star_cons hs) rfl)) fun D σ H => st_app
theorem S_expr (ok : SOk Gr G Φ k L X W) {e : Expr} {pos : Pos} {c : CS} (h : cS G Φ wn (n + 1) L (.Expr e pos) = some c) : PS X (.Expr e pos) (tSt X.K Gr W c) := by
  cases e with
  | Constant v j p =>
    cases v with
    | str z => cases h; exact PS.imp ps_doc fun D σ H => st_nx
    | _ => exact S_expr0 ok h
  | Call f as ks cpos =>
    cases f with
    | Attribute o m apos =>
      cases o with
      | Name x px =>
        rcases as with _ | ⟨a, _ | ⟨b, as⟩⟩
        · exact S_expr0 ok h
        · rcases ks with _ | ⟨k1, ks⟩
          · have h5 : (if m = ("append" : Str) ∧ notStar a = true ∧ (apos.endLine == cpos.line) = true then (L.slot x >>= fun i => cE G Φ n L a >>= fun y => some (disow (leak n L a) (sApp i y.2))) else none) = some c := h
            clear h
            split at h5
            · rename_i hc
              obtain ⟨rfl, h1, h2⟩ := hc
              obtain ⟨i, h3, h5⟩ := obind h5
              obtain ⟨⟨fr, c'⟩, h4, h5⟩ := obind h5
              cases h5
              exact PS.imp (S_app ok h1 h2 h3 h4) fun D σ H => tSt_dis
            · cases h5
          · exact S_expr0 ok h
        · exact S_expr0 ok h
      | _ => exact S_expr0 ok h
    | _ => exact S_expr0 ok h
  | ListComp _ _ _ _ => cases h
  | SetComp _ _ _ _ => cases h
  | DictComp _ _ _ _ _ => cases h
  | _ => exact S_expr0 (n := n) ok h
theorem S_set0 (ok : SOk Gr G Φ k L X W) {x : Str} {px pos : Pos} {e : Expr} {i : Nat} {c : CS} (hi : L.lslot x = some i) (h : (if noComp e = true then (cE G Φ n L e >>= fun y => some (disow (leak n L e) (sSet i (y.1 && L.keeps x) y.2))) else none) = some c) : PS X (.Assign [.Name x px] e pos) (tSt X.K Gr W c) := by
  split at h
  · rename_i hn
    obtain ⟨⟨fr, c'⟩, h1, h⟩ := obind h
    cases h
    have s := lslot_ok ok.nm hi
    have q := (snd n).E ok.toEOk e fr c' h1
    cases fr with
    | true =>
      cases hk : L.keeps x with
      | true =>
        exact PS.imp (ps_set ok.nm.nodup s.at_ s.loc q.1 (sw_no hn) s.hf) fun D σ H h => st_setF (tSt_dis h)
      | false =>
        exact PS.imp (ps_set ok.nm.nodup s.at_ s.loc q.1 (sw_no hn) s.hf) fun D σ H h => tE_F (st_set (tSt_dis h))
    | false => exact PS.imp (ps_set ok.nm.nodup s.at_ s.loc q.1 (sw_no hn) s.hf) fun D σ H h => st_set (tSt_dis h)
  · cases h
theorem asg_lc {K : PySem.W.Frag} {D : Ends} {σ : St} {H : Hp} {is : List Nat} {i : Nat} {ci : CI} {g : Tg} {t : CT} {e : CE} {vs : List Nat} {fr : Bool} (hg : ∀ i ∈ g.ixs, i ∈ vs) (h : tSt K Gr W (disow is (sSet i fr (cComp ci vs g t e))) D σ H) :
    tAsg (tLc (tIt K Gr W true ci) (tTg K g) (tTst K Gr W0 t) (tE K Gr W0 e) vs) (gName i) D σ H := by
  cases fr with
  | true => exact tF_comp hg (st_setF (tSt_dis h))
  | false => exact tF_comp hg (tE_F (st_set (tSt_dis h)))
theorem S_setLc (ok : SOk Gr G Φ k L X W) {x : Str} {px lp pos : Pos} {elt tg it : Expr} {ifs : List Expr} {sc : Scope} {i : Nat} {is : List Nat} {c : CS} (hi : L.lslot x = some i) (hcl : L.calm = true) (hns : notSet it = true)
    (h : (lcParts G Φ n L elt tg it ifs sc >>= fun y => some (disow is (sSet i (L.keeps x) y.2))) = some c) : PS X (.Assign [.Name x px] (.ListComp elt [⟨tg, it, ifs, 0⟩] sc lp) pos) (tSt X.K Gr W c) := by
  obtain ⟨⟨fr, c'⟩, h1, h⟩ := obind h
  cases h
  obtain ⟨ci, g, t, e, rfl, rfl, a1, a2, a3, a4, a5, a6⟩ := lc_parts (snd n) ok.toEOk hcl h1
  have s := lslot_ok ok.nm hi
  cases hb : (X.env.blockKind == ScopeKind.function && X.env.kindOf x == some .local && px.line == lp.line && !(sc.names.any fun (n, k) => n == x && (k == .local || k == .cell))) with
  | true =>
    have hl : X.env.scope.names.lookup x = some .local := by
      simp only [Bool.and_eq_true, beq_iff_eq] at hb
      exact hb.1.1.2
    exact PS.imp (ps_setLc (ok.calm hcl) ok.nm.nodup s.at_ hl (by rw [sw_lc, hb]) a2 a3 a4 a5 a6 (folded_of hns)) fun D σ H => asg_lc a1
  | false =>
    exact PS.imp (ps_set ok.nm.nodup s.at_ s.loc (pe_lc (ok.calm hcl) ok.nm.nodup a2 a3 a4 a5 a6 (folded_of hns)) (by rw [sw_lc, hb]) s.hf) fun D σ H => asg_lc a1
theorem S_setN (ok : SOk Gr G Φ k L X W) {x : Str} {px pos : Pos} {e : Expr} {c : CS} (h : cS G Φ wn (n + 1) L (.Assign [.Name x px] e pos) = some c) : PS X (.Assign [.Name x px] e pos) (tSt X.K Gr W c) := by
  have go : (L.lslot x >>= fun i => if noComp e = true then (cE G Φ n L e >>= fun y => some (disow (leak n L e) (sSet i (y.1 && L.keeps x) y.2))) else none) = some c → PS X (.Assign [.Name x px] e pos) (tSt X.K Gr W c) := fun h => by
    obtain ⟨i, hi, h⟩ := obind h
    exact S_set0 ok hi h
  cases e with
  | ListComp elt gs sc lp =>
    rcases gs with _ | ⟨⟨tg, it, ifs, ia⟩, _ | ⟨g2, gs⟩⟩
    · exact go h
    · have h5 : (L.lslot x >>= fun i => if ia = 0 ∧ (L.calm && notSet it) = true then (lcParts G Φ n L elt tg it ifs sc >>= fun y => some (disow (leak n L (.ListComp elt [⟨tg, it, ifs, ia⟩] sc lp)) (sSet i (L.keeps x) y.2))) else none) = some c := h
      clear h go
      obtain ⟨i, hi, h5⟩ := obind h5
      split at h5
      · rename_i hc
        obtain ⟨rfl, hc⟩ := hc
        rw [Bool.and_eq_true] at hc
        exact S_setLc ok hi hc.1 hc.2 h5
      · cases h5
    · exact go h
  | _ => exact go h
theorem S_asg (ok : SOk Gr G Φ k L X W) {ts : List Expr} {pos : Pos} {e : Expr} {c : CS} (h : cS G Φ wn (n + 1) L (.Assign ts e pos) = some c) : PS X (.Assign ts e pos) (tSt X.K Gr W c) := by
  rcases ts with _ | ⟨t, _ | ⟨t2, ts⟩⟩
  · cases h
  · cases t with
    | Name x px => exact S_setN ok h
    | Tuple es j p =>
      have h5 : (if (noComp e && noTup e && L.calm) = true then (tgOf L (.Tuple es j p) >>= fun g => cE G Φ n L e >>= fun y => some (disow (leak n L e) (sTg g y.2))) else none) = some c := h
      clear h
      split at h5
      · rename_i hc
        rw [Bool.and_eq_true, Bool.and_eq_true] at hc
        obtain ⟨g, h1, h5⟩ := obind h5
        obtain ⟨⟨fr, c'⟩, h2, h5⟩ := obind h5
        cases h5
        exact PS.imp (ps_asg ((snd n).E ok.toEOk e fr c' h2).e (tg_pg ok.nm (ok.calm hc.2) h1) (by unfold swapsWithSole; exact sw_no hc.1.1) (stores_no hc.1.2)) fun D σ H h => st_tg (tSt_dis h)
      · cases h5
    | Subscript o j tp =>
      cases o with
      | Name x px =>
        have gen : (if (noComp e && !slc j) = true then (L.slot x >>= fun i => cB G Φ n L j >>= fun cj => cE G Φ n L e >>= fun y => some (disow (leak n L e) (sPut i cj y.2))) else none) = some c → PS X (.Assign [.Subscript (.Name x px) j tp] e pos) (tSt X.K Gr W c) := by
          intro h5
          split at h5
          · rename_i hc
            obtain ⟨i, h1, h5⟩ := obind h5
            obtain ⟨cj, h2, h5⟩ := obind h5
            obtain ⟨⟨fr, c'⟩, h3, h5⟩ := obind h5
            cases h5
            have s := slot_ok ok.nm h1
            rw [Bool.and_eq_true] at hc
            exact PS.imp (ps_asg ((snd n).E ok.toEOk e fr c' h3).e (pg_sub (pe_var s.at_ s.vis s.d1 s.d2) ((snd n).B ok.toEOk j cj h2).1 (set_x (by have := ok.un; omega)) (asg_sub hc.2)) (by unfold swapsWithSole; exact sw_no hc.1)) fun D σ H h => st_put (tSt_dis h)
          · cases h5
        cases j with
        | Tuple es kk tq =>
          have h5 : (if noComp e = true then (L.slot x >>= fun i => cEs G Φ n L es >>= fun cs => cE G Φ n L e >>= fun y => some (disow (leak n L e) (sPutT i cs y.2))) else none) = some c := h
          clear h
          split at h5
          · rename_i hc
            obtain ⟨i, h1, h5⟩ := obind h5
            obtain ⟨cs, h2, h5⟩ := obind h5
            obtain ⟨⟨fr, c'⟩, h3, h5⟩ := obind h5
            cases h5
            have s := slot_ok ok.nm h1
            exact PS.imp (ps_asg ((snd n).E ok.toEOk e fr c' h3).e (pg_sub (pe_var s.at_ s.vis s.d1 s.d2) (pe_tup ((snd n).Es ok.toEOk es cs h2)) (set_t (by have := ok.un; omega)) (asg_sub rfl)) (by unfold swapsWithSole; exact sw_no hc)) fun D σ H h => st_putT (tSt_dis h)
          · cases h5
        | _ => exact gen h
      | _ => cases h
    | _ => cases h
  · cases h

theorem ra_all {es : List Expr} (h : es.all notStar = true) {env : Env} {pos : Pos} : (backTo pos (starEach es env)).any (·.1) = false := star_plain h
theorem S_raise (ok : SOk Gr G Φ k L X W) {x : Str} {px cp pos : Pos} {a : Expr} {as : List Expr} {cs : List CE} (hcl : L.calm = true) (hg : L.glob x = true) (hx : G.has x = true) (hst : (a :: as).all notStar = true) (hz : (a :: as).length ≤ 1000) (hcE : cEs G Φ n L (a :: as) = some cs) :
    PS X (.Raise (some (.Call (.Name x px) (a :: as) [] cp)) none pos) (tSt X.K Gr W (sRaise G x cs)) := by
  have g := glob_ok ok.nm hg
  obtain ⟨c0, hc0, hn0⟩ := List.any_eq_true.mp hx
  have hfc : ∃ c, G.cls.find? (fun c => decide (c.name = x)) = some c ∧ c ∈ G.cls ∧ c.name = x := by
    cases hf : G.cls.find? (fun c => decide (c.name = x)) with
    | none => exact absurd hn0 (List.find?_eq_none.mp hf c0 hc0)
    | some c => exact ⟨c, rfl, List.mem_of_find?_eq_some hf, by have := List.find?_some hf; exact of_decide_eq_true this⟩
  obtain ⟨c, hf, hm, rfl⟩ := hfc
  obtain ⟨C, hC, mk⟩ := ok.gl.mkx X rfl rfl rfl rfl rfl ((ok.room hcl).mono (Nat.le_add_left 2 k)) c hm
  have hfl : G.flds c.name = c.flds := by unfold GI.flds; rw [hf]
  rw [List.all_cons, Bool.and_eq_true] at hst
  refine PS.imp (ps_raise (ok.calm hcl) ok.tk (mk g.gl g.d1 ((snd n).Es ok.toEOk (a :: as) cs hcE) (star_cons hst.1) (star_plain hst.2))) fun D σ H h => ?_
  have h2 := st_raise ok.fl (by rw [ok.mg]; exact hC) h
  obtain ⟨F, H₀, M, ρ, re, p⟩ := h2
  refine ⟨F, H₀, M, ρ, re, ?_⟩
  cases hcs : cAll cs ρ with
  | ok ds =>
    rw [hcs] at p
    intro vs H1 s r
    obtain ⟨p1, p2⟩ := p vs H1 s r
    rw [hfl] at p1 p2
    refine ⟨?_, p1, p2⟩
    have hl := r.length
    have h3 : ∀ {as : List Expr} {cs : List CE} {n : Nat}, cEs G Φ n L as = some cs → cs.length = as.length := by
      intro as
      induction as with
      | nil =>
        intro cs n h
        cases n with
        | zero => cases h
        | succ n => cases h; rfl
      | cons e r ih =>
        intro cs n h
        cases n with
        | zero => cases h
        | succ n =>
          have h : (if notStar e = true then (cE G Φ n L e >>= fun y => cEs G Φ n L r >>= fun cs => some (y.2 :: cs)) else none) = some cs := h
          split at h
          · obtain ⟨y, _, h⟩ := obind h
            obtain ⟨cs', h2, h⟩ := obind h
            cases h
            simp [ih h2]
          · cases h
    have h4 : ∀ {cs : List CE} {ds : List PyData}, cAll cs ρ = .ok ds → ds.length = cs.length := by
      intro cs
      induction cs with
      | nil => intro ds h; cases h; rfl
      | cons c cs ih =>
        intro ds h
        have h : ((c ρ).bind fun d => (cAll cs ρ).bind fun ds => .ok (d :: ds)) = .ok ds := h
        cases hc : c ρ with
        | ok d =>
          rw [hc, R.bind_ok] at h
          cases hcs : cAll cs ρ with
          | ok ds' => rw [hcs, R.bind_ok] at h; cases h; simp [ih hcs]
          | exc n es => rw [hcs] at h; cases h
          | bad => rw [hcs] at h; cases h
        | exc n es => rw [hc] at h; cases h
        | bad => rw [hc] at h; cases h
    have e1 := h3 hcE
    have e2 := h4 hcs
    omega
  | exc n ds => rw [hcs] at p; exact p
  | bad => rw [hcs] at p; exact p
theorem S_all (S : SndS G Φ wn n) (ok : SOk Gr G Φ k L X W) (s : Stmt) (c : CS) (h : cS G Φ wn (n + 1) L s = some c) : PS X s (tSt X.K Gr W c) := by
  cases s with
  | Expr e pos => exact S_expr ok h
  | Assign ts e pos => exact S_asg ok h
  | Return o pos =>
    cases o with
    | none => cases h; exact PS.imp ps_retN fun D σ H => st_retN
    | some e =>
      obtain ⟨⟨fr, c'⟩, h1, h⟩ := obind (show (cE G Φ n L e >>= fun y => some (disow (leak n L e) (sRet y.2))) = some c from h)
      cases h
      exact PS.imp (ps_ret ((snd n).E ok.toEOk e fr c' h1).e) fun D σ H h => st_ret (tSt_dis h)
  | If t a b pos =>
    obtain ⟨ct, h1, h⟩ := obind (show (cT G Φ n L t >>= fun ct => cSs G Φ wn n L a >>= fun ca => cSs G Φ wn n L b >>= fun cb => some (sIf ct ca cb)) = some c from h)
    obtain ⟨ca, h2, h⟩ := obind h
    obtain ⟨cb, h3, h⟩ := obind h
    cases h
    exact PS.imp (ps_if ((snd n).T ok.toEOk t ct h1) (S.Ss ok a ca h2) (S.Ss ok b cb h3)) fun D σ H => st_if
  | For tg it body els pos =>
    cases els with
    | cons => cases h
    | nil =>
      have h5 : (if (L.calm && notSet it) = true then (tgOf L tg >>= fun g => cI G Φ n L false it >>= fun ci => cSs G Φ wn n L body >>= fun cb => some (disow (leak n L it) (sFor ci g cb))) else none) = some c := h
      clear h
      split at h5
      · rename_i hc
        rw [Bool.and_eq_true] at hc
        obtain ⟨g, h1, h5⟩ := obind h5
        obtain ⟨ci, h2, h5⟩ := obind h5
        obtain ⟨cb, h3, h5⟩ := obind h5
        cases h5
        exact PS.imp (ps_for (ok.pa hc.1) (ok.calm hc.1) ((snd n).I ok.toEOk false tg it ci h2) (tg_pg ok.nm (ok.calm hc.1) h1) (S.Ss ok body cb h3) (folded_of hc.2)) fun D σ H h => st_for (tSt_dis h)
      · cases h5
  | While t body els pos =>
    cases els with
    | cons => cases h
    | nil =>
      have h5 : (if L.calm = true then (cT G Φ n L t >>= fun ct => cSs G Φ wn n L body >>= fun cb => some (sWhile wn ct cb)) else none) = some c := h
      clear h
      split at h5
      · rename_i hc
        obtain ⟨ct, h1, h5⟩ := obind h5
        obtain ⟨cb, h2, h5⟩ := obind h5
        cases h5
        exact PS.imp (ps_while (ok.pa hc) ((snd n).T ok.toEOk t ct h1) (S.Ss ok body cb h2)) fun D σ H => st_while
      · cases h5
  | Pass pos => cases h; exact PS.imp ps_pass fun D σ H => st_nx
  | Break pos => cases h; exact PS.imp ps_break fun D σ H => st_bk
  | Continue pos => cases h; exact PS.imp ps_continue fun D σ H => st_ct
  | Raise e z pos =>
    cases e with
    | none => cases h
    | some e =>
      cases z with
      | some z => cases e <;> first | (cases h; done) | (rename_i f as ks cp; cases f <;> first | (cases h; done) | (cases as <;> cases ks <;> first | (cases h; done)))
      | none =>
        cases e with
        | Call f as ks cp =>
          cases f with
          | Name x px =>
            cases as with
            | nil => cases h
            | cons a as =>
              cases ks with
              | cons => cases h
              | nil =>
                have h5 : (if (L.calm && L.glob x && G.has x && (a :: as).all notStar && decide ((a :: as).length ≤ 1000)) = true then (cEs G Φ n L (a :: as) >>= fun cs => some (disow (leaks n L (a :: as)) (sRaise G x cs))) else none) = some c := h
                clear h
                split at h5
                · rename_i hc
                  rw [Bool.and_eq_true, Bool.and_eq_true, Bool.and_eq_true, Bool.and_eq_true, decide_eq_true_iff] at hc
                  obtain ⟨⟨⟨⟨c1, c2⟩, c3⟩, c4⟩, c5⟩ := hc
                  obtain ⟨cs, h1, h5⟩ := obind h5
                  cases h5
                  exact PS.imp (S_raise ok c1 c2 c3 c4 c5 h1) fun D σ H => tSt_dis
                · cases h5
          | _ => cases h
        | _ => cases h
  | Try body hs els fin pos =>
    cases els with
    | cons => cases hs <;> cases h
    | nil =>
      cases fin with
      | cons => cases hs <;> cases h
      | nil =>
        cases hs with
        | nil => cases h
        | cons h0 hs =>
          have h5 : (if L.calm = true then (cSs G Φ wn n L body >>= fun cb => cHs G Φ wn n L (h0 :: hs) >>= fun hc => some (sTry G cb hc)) else none) = some c := h
          clear h
          split at h5
          · rename_i hcl
            obtain ⟨cb, h1, h5⟩ := obind h5
            obtain ⟨hc, h2, h5⟩ := obind h5
            cases h5
            have hx := ok.sxc hcl
            obtain ⟨a1, a2⟩ := S.Hs ok hx (h0 :: hs) hc h2
            exact PS.imp (ps_hds (tb := fun W => tSt X.K Gr W cb) ok.nm.nodup ok.st ok.fr ok.tk (fun W' pl xe tk pa => S.Ss (ok.tr hx tk pa) body cb h1) a1) fun D σ H => st_try hx ok.mg ok.gl.cls a2
          · cases h5
  | _ => cases h
theorem names_of (ok : SOk Gr G Φ k L X W) {t : Str} (hg : L.glob t = true) (hc : ClsOf G X.mg t (cvOf G X.mg t)) : Names X t (cvOf G X.mg t) := by
  have g := glob_ok ok.nm hg
  refine ⟨g.gl, g.d1, ?_⟩
  rcases hc with ⟨_, h⟩ | ⟨_, h1, h2⟩
  · exact .inl h
  · exact .inr ⟨h1, h2, g.nn⟩
def hdSlot (L : Lc) : Option Str → Option (Option Nat)
  | none => some none
  | some x => if L.nm.lookup x = some .local then (L.lslot x).map some else none
theorem hs_all (S : SndS G Φ wn n) (ok : SOk Gr G Φ k L X W) (hx : Gr.sx = none) (hs : List ExceptHandler) (hc : List HdC) (h : cHs G Φ wn (n + 1) L hs = some hc) :
    Hds X hs (hc.map (hdOf X.K Gr (cvOf G X.mg))) ∧ ∀ h ∈ hc, ClsOf G X.mg h.t (cvOf G X.mg h.t) := by
  cases hs with
  | nil => cases h; exact ⟨.nil, fun _ z => by cases z⟩
  | cons h0 r =>
    cases h0 with
    | ExceptHandler ty o su pb =>
      cases ty with
      | none => cases h
      | some te =>
        cases te with
        | Name t pa =>
          cases su with
          | nil => cases h
          | cons s0 ss =>
            have h5 : (if (L.glob t && G.clsName t) = true then (hdSlot L o >>= fun i => cSs G Φ wn n { L with calm := false, en := o } (s0 :: ss) >>= fun su => cHs G Φ wn n L r >>= fun l => some ((⟨t, i, su⟩ : HdC) :: l)) else none) = some hc := h
            clear h
            split at h5
            · rename_i hg
              rw [Bool.and_eq_true] at hg
              obtain ⟨i, h1, h5⟩ := obind h5
              obtain ⟨su, h2, h5⟩ := obind h5
              obtain ⟨l, h3, h5⟩ := obind h5
              cases h5
              obtain ⟨a1, a2⟩ := S.Hs ok hx r l h3
              have hcv : ClsOf G X.mg t (cvOf G X.mg t) := by
                obtain ⟨cv, hcv, _⟩ := ok.gl.nms t hg.2
                exact cvOf_ok ⟨cv, hcv⟩
              refine ⟨.cons (z := hdOf X.K Gr (cvOf G X.mg) ⟨t, i, su⟩) (names_of ok hg.1 hcv) ?_ ?_ a1, fun z hz => ?_⟩
              · cases o with
                | none => cases h1; exact .inl ⟨rfl, rfl⟩
                | some x =>
                  have h1 : (if L.nm.lookup x = some .local then (L.lslot x).map some else none) = some i := h1
                  split at h1
                  · rename_i hl
                    obtain ⟨j, h6, rfl⟩ := omap h1
                    exact .inr ⟨x, j, rfl, rfl, (lslot_ok ok.nm h6).at_, ok.nm.loc x hl⟩
                  · cases h1
              · intro a oe cls d pl hz hf
                cases i with
                | none => exact S.Ss (ok.suite0 hx) (s0 :: ss) su h2
                | some i =>
                  refine ⟨fun pins s σ H D I hw => ?_⟩
                  obtain ⟨C, rfl, hw⟩ := hw
                  exact (S.Ss (ok.suite hz hf) (s0 :: ss) su h2).run pins s σ H D I hw
              · rcases List.mem_cons.mp hz with rfl | hz
                · exact hcv
                · exact a2 z hz
            · cases h5
        | _ => cases h
theorem sndSS (S : SndS G Φ wn n) : SndS G Φ wn (n + 1) where
  S := fun ok s c h => S_all S ok s c h
  Ss := fun ok ss c h => by
    cases ss with
    | nil => cases h; exact PSs.imp pss_nil fun D σ H => st_nx
    | cons s r =>
      obtain ⟨c1, h1, h⟩ := obind (show (cS G Φ wn n _ s >>= fun c => cSs G Φ wn n _ r >>= fun d => some (sSeq c d)) = some c from h)
      obtain ⟨d, h2, h⟩ := obind h
      cases h
      exact PSs.imp (pss_cons (S.S ok s c1 h1) (S.Ss ok r d h2)) fun D σ H => st_seq
  Hs := fun ok hx hs hc h => hs_all S ok hx hs hc h
end
theorem sndT {G : GI} {Φ : Ph} {wn : Nat} : ∀ n, SndS G Φ wn n
  | 0 => { S := fun ok s c h => (by cases h), Ss := fun ok ss c h => (by cases h), Hs := fun ok hx hs hc h => (by cases h) }
  | n + 1 => sndSS (sndT n)
end Pv


/-! defs: their promises -/
namespace Pv
open PySem PySem.Spec L2
open PyProof.Rows hiding St

/-! ### plain parameters -/
def plainP (p : Arguments) (ps : List Str) : Bool := p.posonlyargs.isEmpty && p.vararg.isNone && p.kwonlyargs.isEmpty && p.kwarg.isNone && decide (p.args.map (·.arg) = ps) && decide ps.Nodup
theorem lookup_zip : ∀ {ps : List Str} {us : List Value} {i : Nat} {x : Str} {u : Value}, ps.Nodup → ps[i]? = some x → us[i]? = some u → (ps.zip us).lookup x = some u
  | [], _, _, _, _, _, h, _ => by simp at h
  | _ :: _, [], _, _, _, _, _, h => by simp at h
  | p :: ps, v :: us, 0, x, u, _, h1, h2 => by
    simp at h1 h2; subst h1 h2
    simp [List.lookup]
  | p :: ps, v :: us, i + 1, x, u, nd, h1, h2 => by
    have h1 : ps[i]? = some x := by simpa using h1
    have hne : x ≠ p := fun z => (List.nodup_cons.mp nd).1 (z ▸ List.mem_of_getElem? h1)
    have e : (x == p) = false := by simpa using hne
    rw [List.zip_cons_cons, List.lookup_cons, e]
    exact lookup_zip (List.nodup_cons.mp nd).2 h1 (by simpa using h2)
theorem lookup_all {ps : List Str} {us : List Value} (nd : ps.Nodup) (hl : us.length = ps.length) : ∀ x ∈ ps, ∃ u, (ps.zip us).lookup x = some u := fun x hx => by
  obtain ⟨i, hi⟩ := List.getElem?_of_mem hx
  obtain ⟨hlt, _⟩ := List.getElem?_eq_some_iff.mp hi
  exact ⟨us[i], lookup_zip nd hi (by simp [hl, hlt])⟩
theorem fm_zip : ∀ {ps : List Str} {us : List Value} {l : List (Str × Value)}, us.length = ps.length → (∀ (i : Nat) (x : Str) (u : Value), ps[i]? = some x → us[i]? = some u → l.lookup x = some u) → (ps.filterMap fun n => (l.lookup n).map (n, ·)) = ps.zip us
  | [], us, l, hl, _ => by simp
  | p :: ps, [], l, hl, _ => by simp at hl
  | p :: ps, v :: us, l, hl, h => by
    have e := h 0 p v rfl rfl
    rw [List.filterMap_cons, e, List.zip_cons_cons]
    show (p, v) :: _ = _
    rw [fm_zip (by simpa using hl) fun i x u h1 h2 => h (i + 1) x u (by simpa using h1) (by simpa using h2)]
theorem bind_plain {name qual : Str} {params : Arguments} {body : List Stmt} {scope : Scope} {kV doc pm cdv ct : Value} {an : Option Addr} {ps : List Str} (hp : plainP params ps = true) {us : List Value} (hl : us.length = ps.length) :
    bindArgs (PySem.W.fnOf name qual params body scope .none kV doc pm an cdv ct) ⟨us, []⟩ = pure (ps.zip us) := by
  unfold plainP at hp
  simp only [Bool.and_eq_true, decide_eq_true_iff, List.isEmpty_iff, Option.isNone_iff_eq_none] at hp
  obtain ⟨⟨⟨⟨⟨h1, h2⟩, h3⟩, h4⟩, h5⟩, h6⟩ := hp
  obtain ⟨po, ar, va, ko, kd, kw, df⟩ := params
  dsimp only at h1 h2 h3 h4 h5
  subst h1 h2 h3 h4 h5
  have hm : ((ar.map (·.arg)).filter fun n => (((ar.map (·.arg)).zip us).lookup n).isNone) = [] := by
    rw [List.filter_eq_nil_iff]
    intro x hx
    obtain ⟨u, e⟩ := lookup_all h6 hl x hx
    rw [e]; simp
  have hf := fm_zip (l := (ar.map (·.arg)).zip us) hl fun i x u a b => lookup_zip h6 a b
  unfold bindArgs
  simp only [PySem.W.fnOf, List.map_nil, List.nil_append, List.append_nil]
  have hz : ¬ (us.length > (ar.map (·.arg)).length) := by omega
  have hsq : seqItems? Value.none = (pure none : Sem (Option (Array Value))) := rfl
  simp only [hsq, pure_bind, Option.getD_none, List.drop_nil, List.length_nil, Nat.sub_zero, List.take_length, List.drop_length, List.zip_nil_right, List.forIn_nil, hm]
  rw [if_neg (by simpa using hz)]
  simp only [List.isEmpty_nil, Bool.not_true, if_neg Bool.false_ne_true]
  first
    | (rw [hf]; done)
    | (simp only [hf]; done)
    | (show (pure _ : Sem (List (Str × Value))) = _; rw [hf]; done)
    | skip

/-! ### what a def gives, by the depth of calls -/
def lcF (f : FnI) : Lc := { N := f.N, nm := f.scope.names, calm := true, en := none, sh := f.sh }
def startE (N : List Str) (ds : List PyData) : En := ds.map (fun d => .dat d false) ++ List.replicate (N.length - ds.length) .no
def endC : Fw → R PyData
  | .rt d => .ok d
  | .nx _ => .ok .none
  | .exc n es _ => .exc n es
  | _ => .bad
def runC (c : CS) (N ps : List Str) (ds : List PyData) : R PyData := if ds.length = ps.length then endC (c (startE N ds)) else .bad
def fnC (G : GI) (wn fu : Nat) (Φ : Ph) (f : FnI) (ds : List PyData) : R PyData := match cSs G Φ wn fu (lcF f) f.body with
  | some c => runC c f.N f.ps ds
  | none => .bad
def PhN (G : GI) (wn fu : Nat) : Nat → Ph
  | 0 => fun _ _ => .bad
  | k + 1 => fun i ds => match G.fns[i]? with
    | some f => fnC G wn fu (PhN G wn fu k) f ds
    | none => .bad
section
variable {P : Program} {w : World} {K : PySem.W.Frag} {mg : Str → Option Value} {base : Heap} {Gr : Gx} {G : GI}
theorem RE.start {F : Addr → Prop} {H : Hp} {N : List Str} {ds : List PyData} {vs : List V} (t : Trk F H) (r : Rps K F H ds vs) : RE K Gr F H (fun _ => False) (startE N ds) (L2.start N vs) H := by
  have hl := r.length
  have at_ : ∀ {i : Nat} {s : Sl}, (startE N ds)[i]? = some s → (∃ d, ds[i]? = some d ∧ s = .dat d false) ∨ s = .no := fun {i s} e => by
    unfold startE at e
    by_cases hi : i < ds.length
    · rw [List.getElem?_append_left (by simpa using hi), List.getElem?_map] at e
      cases hd : ds[i]? with
      | none => rw [hd] at e; cases e
      | some d => rw [hd] at e; cases e; exact .inl ⟨d, rfl, rfl⟩
    · rw [List.getElem?_append_right (by simpa using hi), List.getElem?_replicate] at e
      split at e
      · cases e; exact .inr rfl
      · cases e
  have noOwn : ∀ a, ¬ Own (startE N ds) (L2.start N vs) a := fun a ⟨i, d, e, _⟩ => by
    rcases at_ e with ⟨_, _, z⟩ | z
    · cases z
    · cases z
  have hF : ∀ a, FF F (startE N ds) (L2.start N vs) a → F a := fun a z => z.elim id fun z => absurd z (noOwn a)
  refine ⟨by simp [startE, L2.start, hl], fun i d e => ?_, fun i d e => ?_, fun i j d d' a e => ?_, fun a o h _ => h, fun a z => absurd z (noOwn a), fun a z => ⟨t a z, fun c => c⟩, fun i n es e => ?_⟩
  · rcases at_ e with ⟨d', h1, z⟩ | z
    · cases z
      obtain ⟨v, e1, rv⟩ := r.get h1
      refine ⟨v, ?_, rv.less hF⟩
      unfold L2.start
      obtain ⟨hlt, _⟩ := List.getElem?_eq_some_iff.mp e1
      rw [List.getElem?_append_left (by simpa using hlt), List.getElem?_map, e1]
      rfl
    · cases z
  · rcases at_ e with ⟨_, _, z⟩ | z
    · cases z
    · cases z
  · rcases at_ e with ⟨_, _, z⟩ | z
    · cases z
    · cases z
  · rcases at_ e with ⟨_, _, z⟩ | z
    · cases z
    · cases z
theorem frm_same {H H' : Hp} (f : Frm H (fun _ => False) H') : Same H H' := fun a o h => f a o h fun z => z
theorem fn_sound {wn fu k i : Nat} {f : FnI} {a : Addr} {fd : FuncData} (F : FunD K f.name f.name f.params f.body f.scope [] [] a fd) (S : FnScope f.N f.ps f.scope) (hi : G.fns[i]? = some f) (g : GOk Gr G (PhN G wn fu k) k P w K mg base) (hx : Gr.sx = none) (hfl : Gr.flds = G.flds) (hmg : Gr.mg = mg) :
    FnOk P w K mg base (L2.CX P w) (k + 1 + 2) a fd f.ps (spF K Gr (PhN G wn fu (k + 1)) f.ps.length i) := by
  refine F.ok (k := k + 2) S (fun vs H Q E h => h.1) fun cdv A outer s H vs Q E hr hsp => ?_
  obtain ⟨hl, Fr, ds, tr, rs, q⟩ := hsp
  have hq : PhN G wn fu (k + 1) i ds = fnC G wn fu (PhN G wn fu k) f ds := by
    show (match G.fns[i]? with | some f => fnC G wn fu (PhN G wn fu k) f ds | none => .bad) = _
    rw [hi]
  rw [hq] at q
  unfold fnC at q
  cases hc : cSs G (PhN G wn fu k) wn fu (lcF f) f.body with
  | none => rw [hc] at q; exact False.elim q
  | some c =>
    rw [hc] at q
    dsimp only at q
    unfold runC at q
    rw [if_pos (by rw [rs.length, hl])] at q
    have ok : SOk Gr G (PhN G wn fu k) k (lcF f) (cxOf (L2.CX P w) P w K mg base f.N f.name f.scope a cdv A outer s H E) (fun cls d _ H => E cls d H) := {
      calm := fun _ => rfl
      room := fun _ => hr
      un := by have := hr.un; show (A.deeper _).units + 200 < cLine; omega
      tk := takes_of rfl rfl rfl rfl
      nm := ⟨rfl, S.nd, fun x h => h, fun x h => h, fun x h => .inr h, fun x h => h, fun x h => rfl⟩
      gl := g
      fl := hfl
      mg := hmg
      sxc := fun _ => hx
      sx := fun a C od e => by rw [hx] at e; cases e
      kd := S.kind
      pa := fun _ => passes_of rfl
      st := rfl
      fr := rfl }
    refine ⟨_, (sndT fu).Ss ok f.body c hc, Fr, H, fun _ => False, startE f.N ds, RE.start tr rs, ?_⟩
    cases hr2 : c (startE f.N ds) with
    | nx ρ' => rw [hr2] at q; exact fun σ' H' r => q .non H' (frm_same r.frm) rfl
    | rt d => rw [hr2] at q; exact fun v H' fm r => q v H' (frm_same fm) r
    | bk ρ' => rw [hr2] at q; exact False.elim q
    | ct ρ' => rw [hr2] at q; exact False.elim q
    | exc n es ρ' => rw [hr2] at q; exact fun cls od σ' H' r x => q cls od H' (frm_same r.frm) (x.less fun a z => .inl z)
    | bad => rw [hr2] at q; exact False.elim q
/-- what the head tells -/
structure GSt (Gr : Gx) (G : GI) (P : Program) (w : World) (K : PySem.W.Frag) (mg : Str → Option Value) (base : Heap) : Prop where
  bi : ∀ x ∈ biNames, mg x = none
  fns : ∀ (i : Nat) (f : FnI), G.fns[i]? = some f → ∃ (a : Addr) (fd : FuncData), mg f.name = some (.ref a) ∧ PySem.W.keepIn K (.ref a) = true ∧ FunD K f.name f.name f.params f.body f.scope [] [] a fd ∧ plainP f.params f.ps = true ∧ FnScope f.N f.ps f.scope
  cls : ∀ n C, G.has n = true → mg n = some (.ref C) → ClOk G K mg n C
  nms : ∀ t, G.clsName t = true → ∃ cv, ClsOf G mg t cv ∧ ((∃ a, cv = .ref a) ∨ ∃ n, cv = .type n)
  mkx : ∀ (X : Cx), X.prog = P → X.w = w → X.K = K → X.mg = mg → X.base = base → Room 2 X.A → ∀ c ∈ G.cls, ∃ C, mg c.name = some (.ref C) ∧ (Gl X c.name → (c.name == ("__debug__" : Str)) = false →
    ∀ {e : Expr} {es : List Expr} {ta : TA} {p pos : Pos}, PA X (e :: es) ta → starEach (e :: es) X.env = (false, eval e X.env) :: starEach es X.env → (backTo pos (starEach es X.env)).any (·.1) = false →
      PMk X (.Call (.Name c.name p) (e :: es) [] pos) (fun σ H Q => ta σ H fun vs H1 => vs.length ≤ 1000 ∧ (c.flds = [] → Q (.ref C) none H1) ∧ (c.flds ≠ [] → vs.length = c.flds.length ∧ ∀ dx, H1 dx = none → Q (.ref C) (some dx) (upd H1 dx (.xd (c.flds.zip vs.reverse))))))
  cons : ∀ x d, G.cons.lookup x = some d → ∃ u v, mg x = some u ∧ RelV v u ∧ ∀ F H, Rp K F H d v
theorem gok (st : GSt Gr G P w K mg base) (hx : Gr.sx = none) (hfl : Gr.flds = G.flds) (hmg : Gr.mg = mg) {wn fu : Nat} : ∀ k, GOk Gr G (PhN G wn fu k) k P w K mg base
  | 0 => ⟨st.bi, fun i f hi => by
      obtain ⟨a, fd, h1, h2, F, h3, S⟩ := st.fns i f hi
      refine ⟨a, fd, h1, h2, F.bindsN fun _ _ _ _ _ _ us hl => bind_plain h3 hl, fun vs H Q E h => h.1, fun A outer s H args us vs Q E hr he hb r h => ?_⟩
      obtain ⟨_, _, _, _, _, z⟩ := h
      exact False.elim z, st.cls, st.nms, st.mkx, st.cons⟩
  | k + 1 => ⟨st.bi, fun i f hi => by
      obtain ⟨a, fd, h1, h2, F, h3, S⟩ := st.fns i f hi
      exact ⟨a, fd, h1, h2, F.bindsN fun _ _ _ _ _ _ us hl => bind_plain h3 hl, fn_sound F S hi (gok st hx hfl hmg k) hx hfl hmg⟩, st.cls, st.nms, st.mkx, st.cons⟩
end
end Pv


/-! own exception classes over ValueError, in a line of classes, whose __init__ says super().__init__(text) and stores its arguments -/
namespace Pv
open PySem PySem.Spec L2
open PyProof.Rows hiding St

/-- the instance's class C, the class D that the __init__ is written in -/
structure IniC (K : PySem.W.Frag) (D C : Addr) (fs : List Str) : Prop where
  ox : OexC K C
  no : ∀ f ∈ fs, PySem.W.findIn K (.ref C) f = some none
  mro : PySem.W.mroIn K C (.ref D) = some true
  sup : PySem.W.ks_superIn K C D "__init__" = some (some (.builtin "ValueError.__init__"))
  sub : PySem.W.subIn K (.ref C) (.type "ValueError") = some true
  opq : PySem.W.nsIn K cStatics "thirdparty.any" = some none
/-- where a super() stands -/
structure SupAt (X : Cx) (f cda cc D : Addr) (sf : Str) : Prop where
  lk : ∃ (oc : Value) (od : Option Addr) (osl : Array (Option Value)) (fd : FuncData) (ar : Arg), X.K.lookup f = some ⟨oc, od, .func fd, osl⟩ ∧ (fd.params.posonlyargs ++ fd.params.args).head? = some ar ∧ ar.arg = sf
  fu : X.env.func = some f
  co : X.env.code = .ref cda
  file : ∃ (c1 : Value) (d1 : Option Addr) (vs : Array Value) (s1 : Array (Option Value)) (file : Str) (tf : Tok), X.K.lookup cda = some ⟨c1, d1, .fields vs, s1⟩ ∧ vs[2]? = some (.str file tf) ∧ ((X.prog.main.file : Str) == file) = true
  cell : ∃ (c1 : Value) (d1 : Option Addr) (s1 : Array (Option Value)), X.K.lookup cc = some ⟨c1, d1, .cell (some (.ref D)), s1⟩
  cls : ∃ cd, PySem.W.clsIn X.K D = some cd
  at_ : X.env.cells.lookup ("__class__" : Str) = some cc
  ks : X.env.kindOf "super" = some .globalImplicit
  kc : X.env.kindOf "__class__" = some .free
  kself : X.env.kindOf sf = some .local
  n0 : X.N[0]? = some sf
  top : (X.prog.main.scope.names.lookup ("super" : Str)).isSome = false
  mg : X.mg "super" = none
section
variable {X : Cx} {f cda cc D : Addr} {sf : Str}
theorem boot_super : bootBuiltins "super" = some (.type "super") := by decide +kernel
theorem Inv.push {pins : List (Addr × Obj)} {σ : St} {H : Hp} {h h' : Heap} {g : Array GenState} {d : Drawn} {t t' : Nat} {os : OsState} (I : Inv X pins σ H ⟨h, g, d, t, os⟩) (k : ∀ b o, h.get? b = some o → h'.get? b = some o) : Inv X pins σ H ⟨h', g, d, t', os⟩ := I.kept (t' := t') k
/-- how the line's call is evaluated (its places told) -/
def SupEv (p0 p1 p2 p3 p4 : Pos) (z : Str) (j : Nat) : Prop := ∃ pl : Sem Bool, ∀ env : Env, eval (.Call (.Attribute (.Call (.Name "super" p0) [] [] p1) "__init__" p2) [.Constant (.str z) j p3] [] p4) env = (do
  let ov ← attributeBase (.Call (.Name "super" p0) [] [] p1) "__init__" env (eval (.Call (.Name "super" p0) [] [] p1) env)
  standAt p2.atName
  let (f, first) ← holding [ov] (getMethod ov "__init__" pl)
  callWith p4 f first (backTo p4 (starEach [.Constant (.str z) j p3] env)) [])
/-- super().__init__('text') -/
theorem sup_line (T : SupAt X f cda cc D sf) {body : List Stmt} {p0 p1 p2 p3 p4 p5 : Pos} {z : Str} {j : Nat} {σ : St} {H : Hp} {s : Shared} {a C : Addr} {fs : List Str} {E : Value → Shared → Prop} {Q : Flow → Shared → Prop} (ev : SupEv p0 p1 p2 p3 p4 z j) (c : IniC X.K D C fs) (I : Inv X [] σ H s)
    (hσ : σ[0]? = some (some (.ref a))) (ha : H a = some (exo a C none)) (hQ : ∀ s', Inv X [] σ H s' → Q .next s') :
    _root_.PySem.wpAt (model X.prog X.w) X.A (.func body X.env) (exec (.Expr (.Call (.Attribute (.Call (.Name "super" p0) [] [] p1) "__init__" p2) [.Constant (.str z) j p3] [] p4) p5) X.env) Q E s := by
  have hint : interactive X.env = false := by
    unfold interactive
    rw [I.ok.kind]
    rfl
  refine PySem.ks_wpAt_Expr_any ?_ hint
  obtain ⟨oc, od, osl, fd, ar, hf, hp, har⟩ := T.lk
  obtain ⟨c1, d1, vs, s1, file, tf, hcode, hvs, hfile⟩ := T.file
  obtain ⟨c2, d2, s2, hcell⟩ := T.cell
  obtain ⟨cdD, hD⟩ := T.cls
  obtain ⟨t0, hx⟩ := exo_at I.hok ha
  obtain ⟨mm, hn, hl⟩ := I.loc
  obtain ⟨u, ru, lu⟩ := hl 0 sf (.ref a) T.n0 hσ (.inl T.kself)
  have hu : mm sf = some (.ref a) := by
    cases ru
    rcases lu with ⟨_, e⟩ | ⟨e, _⟩
    · exact e
    · rw [T.kself] at e; rcases e with e | e <;> cases e
  obtain ⟨hh, g, d, tk, os⟩ := s
  have KX := I.kIn
  obtain ⟨oD, hD1, hD2⟩ : ∃ oD, hh.get? D = some oD ∧ oD.data = .cls cdD := by
    unfold PySem.W.clsIn at hD
    split at hD
    · rename_i e1 e2 e3 e4 ho
      cases hD
      exact ⟨_, KX _ _ ho, rfl⟩
    · cases hD
  obtain ⟨mb, hb1, hb2⟩ := I.mod.blt
  have IA : PySem.W.InstAt hh a { cls := .ref C, dict := none, data := .fields #[.ref t0, .none, .none, .none, .bool false, .none] } C none := ⟨hx, rfl, rfl, trivial⟩
  obtain ⟨pl, ev⟩ := ev
  refine PySem.ks_wpAt_MethodCall (PySem.ks_wpAt_super_base T.ks T.kc (by decide) T.fu (KX _ _ hf) rfl hp T.co (KX _ _ hcode) rfl hvs hfile T.top ?_) (ev X.env)
  refine PySem.W.ks_loadName_global I.ok.kind T.ks (Calls.loadGlobal_builtin (by rw [I.ok.glob]; exact I.mod.glob.keeps I.bk) T.mg (by rw [I.ok.blt]; exact hb1.keeps I.bk) ((hb2 "super" (by decide)).trans boot_super) ⟨rfl, ?_⟩)
  refine wpAny_loadName_free I.ok.kind T.kc T.at_ ⟨_, KX _ _ hcell, rfl⟩ ?_
  rw [har]
  refine wpAny_loadName_local I.ok.kind T.kself hn hu ?_
  refine PySem.ks_wpAny_isType_cls hD1 hD2 ⟨rfl, ?_⟩
  refine PySem.ks_wpAny_call_super hD1 hD2 hx rfl (fun c e => by cases e) (PySem.W.looks_mroIn KX c.mro) (fun h1 e1 k1 => ?_)
  have I1 : Inv X [] σ H ⟨h1, g, d, tk, os⟩ := Inv.push I k1
  have KX1 := I1.kIn
  cases hc : PySem.W.clsIn X.K C with
  | none =>
    have := c.sup
    unfold PySem.W.ks_superIn at this
    rw [hc] at this; cases this
  | some cd =>
    have hsup := c.sup
    unfold PySem.W.ks_superIn at hsup
    rw [hc] at hsup
    have IA1 : PySem.W.InstAt h1 a { cls := .ref C, dict := none, data := .fields #[.ref t0, .none, .none, .none, .bool false, .none] } C none := ⟨k1 _ _ hx, rfl, rfl, trivial⟩
    refine PySem.W.kxs_getMethod PySem.W.kxs_ValueError e1 (PySem.W.looks_opaque KX1 c.opq) (l₀ := cd.mro) (fun A Q E s k q => wpAny_bind ((PySem.W.looks_clsIn KX1 hc) A _ E s k (wpAny_pure q))) rfl KX1 hsup (IA1.type.andThen (PySem.W.looks_subIn KX1 c.sub)) (PySem.W.ks_ne KX1 IA1 hc) (by decide) ?_
    have I2 : Inv X [] σ H ⟨h1.push (PySem.W.kxs_mw "ValueError.__init__" a), g, d, tk + 1, os⟩ := Inv.push I1 fun b o e => Heap.get?_push_of_some _ e
    have hu2 : (h1.push (PySem.W.kxs_mw "ValueError.__init__" a)).get? h1.objs.size = some (PySem.W.kxs_mw "ValueError.__init__" a) := Heap.get?_push_at rfl rfl
    refine PySem.W.kxs_callWith (i := "ValueError.__init__") (x := a) rfl ?_
    refine Calls.evalArgs_plain ?_
    show wpAny _ _ (spliced ((false, eval (.Constant (.str z) j p3) X.env) :: backTo p4 (starEach [] X.env))) _ _ _
    refine Calls.spliced_cons (Calls.Constant_str (Calls.spliced_nil ⟨hu2, ?_⟩))
    have I3 : Inv X [] σ H ⟨h1.push (PySem.W.kxs_mw "ValueError.__init__" a), g, d, tk + 1 + 1, os⟩ := Inv.push I2 fun _ _ e => e
    have hx3 : (h1.push (PySem.W.kxs_mw "ValueError.__init__" a)).get? a = some ({ cls := .ref C, dict := none, data := .fields #[.ref t0, .none, .none, .none, .bool false, .none] } : Obj) := Heap.get?_push_of_some _ (k1 _ _ hx)
    obtain ⟨nm, q, N, bs, bm, sn, sub, ab, col, dd, x0, x1, x2, x3, x5, hC, hbm⟩ := c.ox.cls
    have hCh := I3.kIn _ _ hC
    refine wpAny_call (codeAny_of_tree ?_)
    show wpAny _ X.A.in1 (callAny (.ref h1.objs.size) ⟨[.str z (tk + 1)], []⟩) _ _ _
    simp only [callAny]
    refine wpAny_bind (wpAny_load hu2 ?_)
    have y1 : (Value.type "method-wrapper" == Value.type "method" || Value.type "method-wrapper" == Value.type "builtin_function_or_method" || Value.type "method-wrapper" == Value.type "method-wrapper") = true := by decide
    simp only [PySem.W.kxs_mw, y1, if_true]
    refine PySem.W.KFB.if_so (by decide) ?_
    refine wpAny_bind (PySem.W.check_bound_init F.excBase_ValueError.toExcCallFacts hCh hx3 rfl ?_)
    refine wpAny_bind (wpAny_pure (wpAny_pure ?_))
    refine ⟨plainId_quiet F.excBase_ValueError.init.plain _, codeAny_builtin F.excBase_ValueError.initEntry ?_⟩
    refine PySem.W.exc_init_tree (cls := .ref C) (t0 := t0) (dv := none) (c2 := .none) (c3 := .none) (b4 := .bool false) hx3 (by show 1 ≤ sizeLine; rw [sizeLine_eq]; omega) fun h' kk he' ht' => ?_
    have J := I3.write (t' := tk + 1 + 1) (x := a) (e := a) (o := exo a C none) (by rw [ha]; exact True.intro) (.inl rfl) kk ⟨_, he'⟩ (exo_ok he')
    have eu : upd H a (exo a C none) = H := by
      funext b
      by_cases hb : b = a
      · rw [hb, upd_same, ha]
      · rw [upd_ne hb]
    rw [eu] at J
    exact hQ _ J
end
end Pv


namespace Pv
open PySem PySem.Spec L2
open PyProof.Rows hiding St

def envI (qual : Str) (scope : Scope) (L f : Addr) (cdv : Value) (cc : Addr) : Env :=
  { scope := scope, locals := L, globals := mainGlobals, cells := [("__class__", cc)], qual := qual ++ ".<locals>.", func := some f, code := cdv, frame := some L, builtins := builtinsNs }
def cxI (CX : CXT) (P : Program) (w : World) (K : PySem.W.Frag) (mg : Str → Option Value) (base : Heap) (N : List Str) (qual : Str) (scope : Scope) (f : Addr) (cdv : Value) (cc : Addr) (A : Around) (outer : List Env) (s : Shared) (H : Hp) (E : XK) : Cx where
  prog := P
  w := w
  K := K
  mg := mg
  base := base
  A := A.deeper (envI qual scope s.heap.objs.size f cdv cc)
  N := N
  s_0 := s
  H_0 := H
  env := envI qual scope s.heap.objs.size f cdv cc
  outer := outer
  stack := envI qual scope s.heap.objs.size f cdv cc :: outer
  ex := []
  calm := true
  fn := fun _ => false
  pn := []
  xe := fun e s' => wpAny (model P w) (A.deeper (envI qual scope s.heap.objs.size f cdv cc)) (leaving (envI qual scope s.heap.objs.size f cdv cc) e) (fun _ s'' => CR CX outer P w H s (fun _ _ => False) E (.error e) s'') (fun e' s'' => CR CX outer P w H s (fun _ _ => False) E (.error e') s'') s'
theorem lookup_mem {x : Str} {u : Value} : ∀ {l : List (Str × Value)}, (l.map (·.1)).Nodup → (x, u) ∈ l → l.lookup x = some u
  | [], _, h => by cases h
  | (y, v) :: l, nd, h => by
    rw [List.lookup_cons]
    rcases List.mem_cons.mp h with h8 | h9
    · cases h8; simp
    · have hne : x ≠ y := fun z => by
        subst z
        exact (List.nodup_cons.mp nd).1 (List.mem_map.mpr ⟨(x, u), h9, rfl⟩)
      have e : (x == y) = false := by simpa using hne
      rw [e]
      exact lookup_mem (List.nodup_cons.mp nd).2 h9
theorem zip_fst {ps : List Str} {us : List Value} (h : us.length = ps.length) : (ps.zip us).map (·.1) = ps := by
  rw [List.map_fst_zip]; omega
theorem lookup_rev {ps : List Str} {us : List Value} {i : Nat} {x : Str} {u : Value} (nd : ps.Nodup) (hl : us.length = ps.length) (h1 : ps[i]? = some x) (h2 : us[i]? = some u) : (ps.zip us).reverse.lookup x = some u := by
  apply lookup_mem
  · rw [List.map_reverse, zip_fst hl]
    unfold List.Nodup at nd ⊢
    rw [List.pairwise_reverse]
    exact nd.imp fun h => Ne.symm h
  · rw [List.mem_reverse]
    have : (ps.zip us)[i]? = some (x, u) := by rw [List.getElem?_zip_eq_some]; exact ⟨h1, h2⟩
    exact List.mem_of_getElem? this
/-- the scope of such an __init__ -/
structure IScope (N : List Str) (sc : Scope) : Prop where
  kind : sc.kind = .function
  co : sc.isCoroutine = false
  gen : sc.isGenerator = false
  nd : N.Nodup
  par : ∀ x ∈ N, sc.names.lookup x = some .local
  free : ∀ y ∈ sc.names, y.2 = .free → y.1 = ("__class__" : Str)
  nocell : ∀ y ∈ sc.names, y.2 ≠ .cell
section
variable {CX : CXT} {P : Program} {w : World} {K : PySem.W.Frag} {mg : Str → Option Value} {base : Heap} {N : List Str} {qual : Str} {scope : Scope} {f cc D : Addr} {cdv : Value} {A : Around} {outer : List Env} {s : Shared} {H : Hp} {E : XK} {us : List Value} {vs : List V}
theorem inv_init (S : IScope N scope) (hd : A.handled = none) (e0 : Env0 P w K mg base A outer s H) (hl : vs.length = N.length) (r : Vals vs us) {cl : Value} {cd : Option Addr} {sl : Array (Option Value)} (hcell : K.lookup cc = some ⟨cl, cd, .cell (some (.ref D)), sl⟩) {h1 : Heap} {t1 : Nat}
    (hns : h1.Ns s.heap.objs.size fun x => (N.zip us).reverse.lookup x) (hk : ∀ b o, s.heap.get? b = some o → h1.get? b = some o) :
    Inv (cxI CX P w K mg base N qual scope f cdv cc A outer s H E) [] (L2.start N vs) H { s with heap := h1, toks := t1 } := by
  have hul : us.length = N.length := by rw [← r.length]; exact hl
  have cells : ∀ {x : Str} {c : Addr}, (cxI CX P w K mg base N qual scope f cdv cc A outer s H E).env.cells.lookup x = some c → x = ("__class__" : Str) ∧ c = cc := fun {x c} e => by
    have e : List.lookup x [(("__class__" : Str), cc)] = some c := e
    rw [List.lookup_cons] at e
    cases hx : x == ("__class__" : Str) with
    | true => rw [hx] at e; cases e; exact ⟨by simpa using hx, rfl⟩
    | false => rw [hx] at e; cases e
  have hcb : base.get? cc = some ⟨cl, cd, .cell (some (.ref D)), sl⟩ := e0.mod.kin _ _ hcell
  have noA : ∀ b : Addr, b ∉ (cxI CX P w K mg base N qual scope f cdv cc A outer s H E).ex := fun b z => absurd (show b ∈ ([] : List Addr) from z) (by simp)
  refine ⟨⟨e0.mod, S.kind, rfl, rfl, Nat.le_refl _, fun y z c h1 h2 => ?_, fun y hy => ?_, fun y c hf _ => (by cases hf), fun _ => hd, Around.frames_deeper e0.frames, .inr ⟨rfl, rfl⟩, fun b z => absurd z (noA b), e0.bs, e0.bsz, fun b _ _ => noA b, fun b z => absurd z (noA b), e0.funs, e0.frf⟩,
    rfl, e0.bare, Un.kept hk, ⟨_, hns, fun i y v h1 h2 h3 => ?_⟩, fun y c h => ?_, e0.hok.fresh (Nat.le_refl _), fun y c h => ?_, fun q hq => absurd (show q ∈ ([] : List (Addr × Obj)) from hq) (by simp), e0.hok.kept hk, ?_⟩
  · rw [(cells h1).1, (cells h2).1]
  · have hy : scope.names.lookup y = some .cell ∨ scope.names.lookup y = some .free := hy
    rcases hy with hy | hy
    · exact absurd rfl (S.nocell _ (PySem.mem_of_lookup hy))
    · have e := S.free _ (PySem.mem_of_lookup hy) rfl
      have e : y = ("__class__" : Str) := e
      subst e
      exact ⟨cc, by show List.lookup _ [(("__class__" : Str), cc)] = _; rw [List.lookup_cons]; simp⟩
  · have hi : i < vs.length := by
      have := (List.getElem?_eq_some_iff.mp h1).1
      have h1' : i < N.length := this
      omega
    have ha : vs[i]? = some v := by
      unfold L2.start at h2
      rw [List.getElem?_append_left (by simpa using hi), List.getElem?_map] at h2
      cases e : vs[i]? with
      | none => rw [e] at h2; cases h2
      | some a => rw [e] at h2; cases h2; rfl
    obtain ⟨u, hu, rv⟩ := r.get ha
    exact ⟨u, rv, .inl ⟨S.par y (List.mem_of_getElem? h1), lookup_rev S.nd hul h1 hu⟩⟩
  · obtain ⟨_, rfl⟩ := cells h
    exact ⟨_, _, hk _ _ (e0.bs _ _ hcb).1, rfl⟩
  · obtain ⟨_, rfl⟩ := cells h
    exact (e0.bs _ _ hcb).2
  · unfold L2.start
    show _ = N.length
    rw [List.length_append, List.length_map, List.length_replicate]
    omega
end
/-! ### the stores -/
def tSto (K : PySem.W.Frag) : List (Str × Nat) → TS
  | [] => tNext
  | q :: r => tSeq (tOst K q.1 (tVar 0) (tVar q.2)) (tSto K r)
theorem sto_old {K : PySem.W.Frag} {D : Ends} {σ : St} {H : Hp} {a C dx : Addr} (ox : OexC K C) (hσ : σ[0]? = some (some (.ref a))) (hne : dx ≠ a) : ∀ {r : List (Str × Nat)} {ys : List V} {l : List (Str × V)}, (∀ q ∈ r, PySem.W.findIn K (.ref C) q.1 = some none) → r.length = ys.length → (∀ (i : Nat) (q : Str × Nat) (y : V), r[i]? = some q → ys[i]? = some y → σ[q.2]? = some (some y)) → r.length + l.length ≤ 800 →
    D.nx σ (upd (upd H dx (exd dx (((r.map (·.1)).zip ys).reverse ++ l))) a (exo a C (some dx))) → tSto K r D σ (upd (upd H dx (exd dx l)) a (exo a C (some dx)))
  | [], ys, l, _, hl, _, _, h => by
    cases ys with
    | nil => exact h
    | cons => simp at hl
  | q :: r, [], l, _, hl, _, _, h => by simp at hl
  | q :: r, y :: ys, l, hno, hl, hs, hz, h => by
    refine ⟨y, hs 0 q y rfl rfl, .ref a, hσ, a, C, rfl, ox, hno q (by simp), .inr ⟨dx, l, upd_same, ?_, ?_, ?_⟩⟩
    · rw [upd_ne hne]; exact upd_same
    · simp at hz; omega
    · have e : upd (upd (upd H dx (exd dx l)) a (exo a C (some dx))) dx (exd dx ((q.1, y) :: l)) = upd (upd H dx (exd dx ((q.1, y) :: l))) a (exo a C (some dx)) := by
        funext b
        by_cases hb : b = dx
        · subst hb; rw [upd_same, upd_ne hne, upd_same]
        · rw [upd_ne hb]
          by_cases hba : b = a
          · subst hba; rw [upd_same, upd_same]
          · rw [upd_ne hba, upd_ne hb, upd_ne hba, upd_ne hb]
      show tSto K r D σ _
      rw [e]
      refine sto_old ox hσ hne (fun z hz => hno z (List.mem_cons_of_mem _ hz)) (by simpa using hl) (fun i z w h1 h2 => hs (i + 1) z w (by simpa using h1) (by simpa using h2)) (by simp at hz ⊢; omega) ?_
      rw [List.map_cons, List.zip_cons_cons, List.reverse_cons, List.append_assoc] at h
      exact h
theorem sto_new {K : PySem.W.Frag} {D : Ends} {σ : St} {H : Hp} {a C : Addr} (ox : OexC K C) (hσ : σ[0]? = some (some (.ref a))) (ha : H a = some (exo a C none)) {r : List (Str × Nat)} {ys : List V} (hn : r ≠ []) (hno : ∀ q ∈ r, PySem.W.findIn K (.ref C) q.1 = some none) (hl : r.length = ys.length)
    (hs : ∀ (i : Nat) (q : Str × Nat) (y : V), r[i]? = some q → ys[i]? = some y → σ[q.2]? = some (some y)) (hz : r.length ≤ 700) (h : ∀ dx, H dx = none → dx ≠ a → D.nx σ (upd (upd H dx (exd dx ((r.map (·.1)).zip ys).reverse)) a (exo a C (some dx)))) : tSto K r D σ H := by
  cases r with
  | nil => exact absurd rfl hn
  | cons q r =>
    cases ys with
    | nil => simp at hl
    | cons y ys =>
      refine ⟨y, hs 0 q y rfl rfl, .ref a, hσ, a, C, rfl, ox, hno q (by simp), .inl ⟨ha, fun dx ndx hne => ?_⟩⟩
      refine sto_old ox hσ hne (fun z hz => hno z (List.mem_cons_of_mem _ hz)) (by simpa using hl) (fun i z w h1 h2 => hs (i + 1) z w (by simpa using h1) (by simpa using h2)) (by simp at hz ⊢; omega) ?_
      have := h dx ndx hne
      rw [List.map_cons, List.zip_cons_cons, List.reverse_cons] at this
      exact this
def stF (sf : Str) : Stmt → Option Str
  | .Assign [.Attribute (.Name s _) f _] (.Name g _) _ => if s = sf ∧ f = g then some f else none
  | _ => none
theorem sto_ps {X : Cx} {sf : Str} (h0 : X.N[0]? = some sf) (hN : ∀ x ∈ X.N, X.env.scope.names.lookup x = some .local ∧ (x == ("__debug__" : Str)) = false ∧ (x == ("__classdict__" : Str)) = false) : ∀ {ss : List Stmt} {fs : List Str} {j : Nat}, ss.mapM (stF sf) = some fs → (∀ (i : Nat) (x : Str), fs[i]? = some x → X.N[i + j]? = some x) →
    PSs X ss (tSto X.K (fs.zipIdx j))
  | [], fs, j, h, hx => by cases h; exact pss_nil
  | s :: ss, fs, j, h, hx => by
    rw [List.mapM_cons] at h
    obtain ⟨x, h1, h⟩ := obind h
    obtain ⟨fs', h2, h⟩ := obind h
    cases h
    have e : ∃ p1 p2 p3 p4, s = .Assign [.Attribute (.Name sf p1) x p2] (.Name x p3) p4 := by
      unfold stF at h1
      split at h1
      · split at h1
        · rename_i hh
          cases h1
          obtain ⟨rfl, rfl⟩ := hh
          exact ⟨_, _, _, _, rfl⟩
        · cases h1
      · cases h1
    obtain ⟨p1, p2, p3, p4, rfl⟩ := e
    have hj := hx 0 x rfl
    rw [Nat.zero_add] at hj
    obtain ⟨a1, a2, a3⟩ := hN sf (List.mem_of_getElem? h0)
    obtain ⟨b1, b2, b3⟩ := hN x (List.mem_of_getElem? hj)
    rw [List.zipIdx_cons]
    exact pss_cons (ps_ost (pe_var h0 (.inl a1) a2 a3) (pe_var hj (.inl b1) b2 b3)) (sto_ps h0 hN h2 fun i y hy => by rw [show i + (j + 1) = (i + 1) + j by omega]; exact hx (i + 1) y (by simpa using hy))

/-! ### the promise of such an __init__ -/
def spI (K : PySem.W.Frag) (D : Addr) (fs : List Str) : Sp := fun vs H Q _ => vs.length = fs.length + 1 ∧ ∃ (a C : Addr) (ys : List V), vs = .ref a :: ys ∧ H a = some (exo a C none) ∧ IniC K D C fs ∧ ∀ dx, H dx = none → dx ≠ a → Q .non (upd (upd H dx (exd dx (fs.zip ys).reverse)) a (exo a C (some dx)))
/-- what stands of it -/
structure IniF (P : Program) (K : PySem.W.Frag) (mg : Str → Option Value) (f D : Addr) (fd : FuncData) (sf : Str) (fs : List Str) : Prop where
  ex : ∃ (oc : Value) (od : Option Addr) (osl : Array (Option Value)) (name qual : Str) (params : Arguments) (body : List Stmt) (scope : Scope) (kV doc pm ct : Value) (an : Option Addr) (cda cc : Addr),
    fd = PySem.W.ksFn name qual params body scope .none kV doc pm an (.ref cda) ct cc ∧ K.lookup f = some ⟨oc, od, .func fd, osl⟩ ∧ PySem.W.codeIn K (.ref cda) qual = true ∧ plainP params (sf :: fs) = true ∧ IScope (sf :: fs) scope ∧
    scope.names.lookup ("super" : Str) = some .globalImplicit ∧ scope.names.lookup ("__class__" : Str) = some .free ∧
    (∃ (p0 p1 p2 p3 p4 p5 : Pos) (z : Str) (j : Nat) (rest : List Stmt), body = .Expr (.Call (.Attribute (.Call (.Name "super" p0) [] [] p1) "__init__" p2) [.Constant (.str z) j p3] [] p4) p5 :: rest ∧ SupEv p0 p1 p2 p3 p4 z j ∧ rest.mapM (stF sf) = some fs) ∧
    (∃ (c1 : Value) (d1 : Option Addr) (vs : Array Value) (s1 : Array (Option Value)) (file : Str) (tf : Tok), K.lookup cda = some ⟨c1, d1, .fields vs, s1⟩ ∧ vs[2]? = some (.str file tf) ∧ ((P.main.file : Str) == file) = true) ∧
    (∃ (c1 : Value) (d1 : Option Addr) (s1 : Array (Option Value)), K.lookup cc = some ⟨c1, d1, .cell (some (.ref D)), s1⟩)
  cls : ∃ cd, PySem.W.clsIn K D = some cd
  top : (P.main.scope.names.lookup ("super" : Str)).isSome = false
  mg : mg "super" = none
  few : fs.length ≤ 600
  ne : fs ≠ []
  dbg : ∀ x ∈ sf :: fs, (x == ("__debug__" : Str)) = false ∧ (x == ("__classdict__" : Str)) = false
theorem startN {N : List Str} {vs : List V} {i : Nat} {v : V} (h : vs[i]? = some v) : (L2.start N vs)[i]? = some (some v) := by
  unfold L2.start
  obtain ⟨hlt, _⟩ := List.getElem?_eq_some_iff.mp h
  rw [List.getElem?_append_left (by simpa using hlt), List.getElem?_map, h]
  rfl
theorem ini_ok {P : Program} {w : World} {K : PySem.W.Frag} {mg : Str → Option Value} {base : Heap} {f D : Addr} {fd : FuncData} {sf : Str} {fs : List Str} {CX : CXT} (T : IniF P K mg f D fd sf fs) : FnOk P w K mg base CX 1 f fd (sf :: fs) (spI K D fs) := by
  obtain ⟨oc, od, osl, name, qual, params, body, scope, kV, doc, pm, ct, an, cda, cc, rfl, lk, hcd, hpl, S, hks, hkc, ⟨p0, p1, p2, p3, p4, p5, z, j, rest, rfl, ev, hrest⟩, hfile, hcell⟩ := T.ex
  refine ⟨fun vs H Q E h => h.1, fun A outer s H args us vs Q E hr e0 hb r hsp => ?_⟩
  obtain ⟨hlen, a, C, ys, rfl, ha, c, hq⟩ := hsp
  have KX : K.In s.heap := e0.mod.kin.keeps fun b o e => (e0.bs b o e).1
  have lim : s.heap.NoLimit := e0.mod.nolimit.keeps fun b o e => (e0.bs b o e).1
  have hul : us.length = (sf :: fs).length := by rw [← r.length]; exact hlen
  refine ks_codeAny_call_defAt (fd := PySem.W.ksFn name qual params _ scope .none kV doc pm an (.ref cda) ct cc) hr.depth (KX _ _ lk) rfl lim (PySem.W.codeRec_of KX hcd) rfl hb S.nocell (fun y hy => S.par y.1 (List.of_mem_zip hy).1) (fun h₀ hns hk => ?_) S.co S.gen S.kind
  obtain ⟨c2, d2, s2, hcl⟩ := hcell
  have I0 : Inv (cxI CX P w K mg base (sf :: fs) qual scope f (.ref cda) cc A outer s H E) [] (L2.start (sf :: fs) (.ref a :: ys)) H { s with heap := h₀, toks := s.toks + ((sf :: fs).zip us).length } := inv_init S hr.hd e0 hlen r hcl hns hk
  have U : SupAt (cxI CX P w K mg base (sf :: fs) qual scope f (.ref cda) cc A outer s H E) f cda cc D sf := {
    lk := by
      unfold plainP at hpl
      simp only [Bool.and_eq_true, decide_eq_true_iff, List.isEmpty_iff, Option.isNone_iff_eq_none] at hpl
      obtain ⟨⟨⟨⟨⟨h1, h2⟩, h3⟩, h4⟩, h5⟩, h6⟩ := hpl
      cases har : params.args with
      | nil => rw [har] at h5; cases h5
      | cons ar ars =>
        rw [har] at h5
        refine ⟨oc, od, osl, _, ar, lk, ?_, ?_⟩
        · show (params.posonlyargs ++ params.args).head? = some ar
          rw [h1, har]; rfl
        · exact (List.cons.inj h5).1
    fu := rfl
    co := rfl
    file := hfile
    cell := ⟨c2, d2, s2, hcl⟩
    cls := T.cls
    at_ := by show List.lookup _ [(("__class__" : Str), cc)] = _; rw [List.lookup_cons]; simp
    ks := hks
    kc := hkc
    kself := S.par sf (by simp)
    n0 := rfl
    top := T.top
    mg := T.mg }
  refine ks_wpAt_execs_cons (sup_line U ev c I0 (startN rfl) ha fun s' I' => ?_)
  show _root_.PySem.wpAt _ _ _ _ _ _ _
  refine wpAt_of_wpAny ?_
  have st := sto_ps (X := cxI CX P w K mg base (sf :: fs) qual scope f (.ref cda) cc A outer s H E) (sf := sf) rfl (fun x hx => ⟨S.par x hx, T.dbg x hx⟩) (fs := fs) (j := 1) hrest (fun i x hi => by show (sf :: fs)[i + 1]? = _; simpa using hi)
  have hyl : fs.length = ys.length := by simp at hlen; omega
  refine wpAny_mono (st.run [] s' _ H { nx := fun _ H' => Q .non H', rt := fun _ _ => False } I' ?_) (fun fl s2 e2 => ?_) fun e s2 he => ?_
  · refine sto_new c.ox (startN rfl) ha (ys := ys) (fun z => T.ne (by simpa using z)) (fun q hq2 => c.no q.1 ?_) (by simpa using hyl) (fun i q y h1 h2 => ?_) (by simp; have := T.few; omega) fun dx nd hne => ?_
    · have := List.mem_zipIdx hq2
      rw [this.2.2]
      exact List.getElem_mem _
    · rw [List.getElem?_zipIdx] at h1
      cases e : fs[i]? with
      | none => rw [e] at h1; cases h1
      | some x =>
        rw [e] at h1
        cases h1
        exact startN (by show (V.ref a :: ys)[1 + i]? = _; rw [Nat.add_comm]; simpa using h2)
    · have := hq dx nd hne
      rw [show (fs.zipIdx 1).map (·.1) = fs from List.zipIdx_map_fst 1 fs]
      exact this
  · cases fl with
    | next =>
      obtain ⟨σ2, H2, J, q2⟩ := e2
      exact ⟨.non, H2, J.os, J.bare, J.base, J.hok, rfl, q2⟩
    | ret u => obtain ⟨_, _, _, _, _, z⟩ := e2; exact False.elim z
    | brk => obtain ⟨_, _, _, z⟩ := e2; exact False.elim z
    | cont => obtain ⟨_, _, _, z⟩ := e2; exact False.elim z
  · exact he
end Pv


namespace Pv
open PySem PySem.Spec L2
open PyProof.Rows hiding St

inductive ClsMk (P : Program) (K : PySem.W.Frag) (mg : Str → Option Value) (C : Addr) (c : ClI) : Prop
  | plain (h0 : c.flds = []) (h1 : PySem.W.excIn K C He.veBase "ValueError.__new__" = true) (h2 : PySem.W.keepIn K (.ref C) = true) (h3 : PySem.W.subIn K (.ref C) (.type "BaseException") = some true) (h4 : PySem.W.typeIn K (.ref C) = some (.type "type"))
  | init (h0 : c.flds ≠ []) {f D : Addr} {fd : FuncData} {sf : Str} (h1 : PySem.W.findIn K (.ref C) "__init__" = some (some (.ref f))) (h2 : PySem.W.typeIn K (.ref f) = some (.type "function")) (h3 : IniF P K mg f D fd sf c.flds.reverse) (h4 : IniC K D C c.flds.reverse)
theorem zip_rev {α β : Type} : ∀ {xs : List α} {ys : List β}, xs.length = ys.length → (xs.zip ys).reverse = xs.reverse.zip ys.reverse
  | [], [], _ => rfl
  | [], _ :: _, h => by simp at h
  | _ :: _, [], h => by simp at h
  | x :: xs, y :: ys, h => by
    have h' : xs.length = ys.length := by simpa using h
    rw [List.zip_cons_cons, List.reverse_cons, List.reverse_cons, List.reverse_cons, zip_rev h', List.zip_append (by simpa using h')]
    rfl
def moA (t : TA) : TA := fun σ H Q => ∃ P, t σ H P ∧ ∀ vs H1, P vs H1 → Q vs H1
theorem pa_mo {X : Cx} {es : List Expr} {t : TA} (h : PA X es t) : PA X es (moA t) := ⟨fun pos pins s σ H Q I ⟨P, hp, hq⟩ => thn (h.run pos pins s σ H P I hp) fun us s1 ⟨vs, H1, I1, r1, p1⟩ => ⟨vs, H1, I1, r1, hq vs H1 p1⟩⟩
theorem ini_bind {P : Program} {K : PySem.W.Frag} {mg : Str → Option Value} {f D : Addr} {fd : FuncData} {sf : Str} {fs : List Str} (T : IniF P K mg f D fd sf fs) {us : List Value} (hl : us.length = (sf :: fs).length) : bindArgs fd ⟨us, []⟩ = pure ((sf :: fs).zip us) := by
  obtain ⟨oc, od, osl, name, qual, params, body, scope, kV, doc, pm, ct, an, cda, cc, rfl, lk, hcd, hpl, _⟩ := T.ex
  exact bind_plain (name := name) (qual := qual) (body := body) (scope := scope) (kV := kV) (doc := doc) (pm := pm) (cdv := .ref cda) (ct := ct) (an := an) hpl hl
theorem mk_of {X : Cx} {C : Addr} {c : ClI} (M : ClsMk X.prog X.K X.mg C c) (hm : X.mg c.name = some (.ref C)) (hr : Room 2 X.A) (hg : Gl X c.name) (hd : (c.name == ("__debug__" : Str)) = false) {e : Expr} {es : List Expr} {ta : TA} {p pos : Pos} (ha : PA X (e :: es) ta)
    (hs : starEach (e :: es) X.env = (false, eval e X.env) :: starEach es X.env) (hp : (backTo pos (starEach es X.env)).any (·.1) = false) :
    PMk X (.Call (.Name c.name p) (e :: es) [] pos) (fun σ H Q => ta σ H fun vs H1 => vs.length ≤ 1000 ∧ (c.flds = [] → Q (.ref C) none H1) ∧ (c.flds ≠ [] → vs.length = c.flds.length ∧ ∀ dx, H1 dx = none → Q (.ref C) (some dx) (upd H1 dx (.xd (c.flds.zip vs.reverse))))) := by
  have ha' := pa_mo ha
  cases M with
  | plain h0 h1 h2 h3 h4 =>
    intro pins s σ H Q I h
    refine pmk_ownA (X := X) (x := c.name) (p := p) (pos := pos) F.excBase_ValueError h1 hm h2 (raises_own h3 h4) hg ha' hd hs hp pins s σ H Q I ⟨_, h, fun vs H1 q => ⟨?_, q.2.1 h0⟩⟩
    have := sizeLine_eq
    have := q.1
    omega
  | init h0 h1 h2 h3 h4 =>
    intro pins s σ H Q I h
    have hb : Binds X.K _ _ [] := Binds.all (fd := _) (ps := _) fun us hl => ini_bind h3 hl
    refine pmk_oex (X := X) (dvs := []) (ds := []) h4.ox h1 h2 (ini_ok h3) hr hb .nil passL hg hm ha' hd hs hp pins s σ H Q I ⟨_, h, fun vs H1 q => ⟨q.1, fun a na => ?_⟩⟩
    obtain ⟨q1, q2⟩ := q.2.2 h0
    refine ⟨by simp; exact q1, a, C, vs, by simp, upd_same, h4, fun dx nd hne => ⟨rfl, dx, (c.flds.reverse.zip vs).reverse, upd_same, by rw [upd_ne hne]; exact upd_same, ?_, ?_⟩⟩
    · rw [upd_ne hne] at nd; exact nd
    · have e1 : (c.flds.reverse.zip vs).reverse = c.flds.zip vs.reverse := by
        rw [zip_rev (by simpa using q1.symm), List.reverse_reverse]
      have n1 : H1 dx = none := by rw [upd_ne hne] at nd; exact nd
      have e2 : upd (del (upd (upd (upd H1 a (exo a C none)) dx (exd dx (c.flds.reverse.zip vs).reverse)) a (exo a C (some dx))) a) dx (.xd (c.flds.reverse.zip vs).reverse) = upd H1 dx (.xd (c.flds.zip vs.reverse)) := by
        rw [e1]
        funext b
        by_cases hb : b = dx
        · subst hb; rw [upd_same, upd_same]
        · rw [upd_ne hb, upd_ne hb]
          by_cases hba : b = a
          · subst hba; rw [del_same, na]
          · rw [del_ne hba, upd_ne hba, upd_ne hb, upd_ne hba]
      rw [e2]
      exact q2 dx n1
end Pv


/-! what the head tells of a program -/
namespace Pv
open PySem PySem.Spec L2
open PyProof.Rows hiding St
open PySem.W (Frag)

/-! ### constants -/
mutual
def dataB (K : Frag) : PyData → Value → Bool
  | .none, u => (match u with | .none => true | _ => false)
  | .bool b, u => (match u with | .bool c => b == c | _ => false)
  | .int i, u => (match u with | .int j _ => decide (i = j) | _ => false)
  | .str x, u => (match u with | .str y _ => decide (x = y) | _ => false)
  | .tuple ds, u => (match u with
    | .ref a => (match K.lookup a with
      | some ⟨.type c, _, .seq its _, _⟩ => decide (c = "tuple") && (decide (its.size ≤ sizeLine) && datasB K ds its.toList)
      | _ => false)
    | _ => false)
  | .list _, _ => false
  | .dict _, _ => false
def datasB (K : Frag) : List PyData → List Value → Bool
  | [], us => us.isEmpty
  | d :: ds, us => (match us with
    | u :: us => dataB K d u && datasB K ds us
    | [] => false)
end
mutual
theorem dataB_ok {K : Frag} : ∀ (d : PyData) (u : Value), dataB K d u = true → ∃ v, RelV v u ∧ ∀ F H, Rp K F H d v
  | .none, u, h => by
    cases u <;> first | exact ⟨.non, rfl, fun _ _ => rfl⟩ | cases h
  | .bool b, u, h => by
    cases u with
    | bool c =>
      have h : (b == c) = true := h
      rw [beq_iff_eq] at h
      subst h
      exact ⟨.bl b, rfl, fun _ _ => rfl⟩
    | _ => cases h
  | .int i, u, h => by
    cases u with
    | int j t =>
      have h := of_decide_eq_true (show decide (i = j) = true from h)
      subst h
      exact ⟨.int i, ⟨t, rfl⟩, fun _ _ => rfl⟩
    | _ => cases h
  | .str x, u, h => by
    cases u with
    | str y t =>
      have h := of_decide_eq_true (show decide (x = y) = true from h)
      subst h
      exact ⟨.str x, ⟨t, rfl⟩, fun _ _ => rfl⟩
    | _ => cases h
  | .tuple ds, u, h => by
    cases u with
    | ref a =>
      have h : (match K.lookup a with
        | some ⟨.type c, _, .seq its _, _⟩ => decide (c = "tuple") && (decide (its.size ≤ sizeLine) && datasB K ds its.toList)
        | _ => false) = true := h
      split at h
      · rename_i c dd its n sl hl
        rw [Bool.and_eq_true, Bool.and_eq_true] at h
        have e := of_decide_eq_true h.1
        subst e
        obtain ⟨vs, rv, rr⟩ := datasB_ok ds its.toList h.2.2
        exact ⟨.ref a, rfl, fun F H => ⟨a, vs, rfl, .inr ⟨_, its, n, hl, rfl, rfl, of_decide_eq_true h.2.1, rv⟩, rr F H⟩⟩
      · cases h
    | _ => cases h
  | .list _, _, h => by cases h
  | .dict _, _, h => by cases h
theorem datasB_ok {K : Frag} : ∀ (ds : List PyData) (us : List Value), datasB K ds us = true → ∃ vs, Vals vs us ∧ ∀ F H, Rps K F H ds vs
  | [], us, h => by
    have h : us.isEmpty = true := h
    rw [List.isEmpty_iff] at h
    subst h
    exact ⟨[], .nil, fun _ _ => rfl⟩
  | d :: ds, us, h => by
    cases us with
    | nil => cases h
    | cons u us =>
      have h : (dataB K d u && datasB K ds us) = true := h
      rw [Bool.and_eq_true] at h
      obtain ⟨v, rv, rp⟩ := dataB_ok d u h.1
      obtain ⟨vs, rvs, rps⟩ := datasB_ok ds us h.2
      exact ⟨v :: vs, .cons rv rvs, fun F H => ⟨v, vs, rfl, rp F H, rps F H⟩⟩
end
def conB (K : Frag) (q : Str × PyData) : Bool := match PySem.W.nsIn K mainGlobals q.1 with
  | some (some u) => dataB K q.2 u
  | _ => false
/-! ### classes -/
def bxs : List (Str × String) := [("ValueError", "ValueError"), ("Exception", "Exception"), ("TypeError", "TypeError"), ("KeyError", "KeyError"), ("IndexError", "IndexError")]
theorem bxs_boot : ∀ q ∈ bxs, bootBuiltins q.1 = some (.type q.2) := by decide +kernel
theorem biExc_bxs : biExc = bxs.map (·.1) := rfl
def eqV (a b : Option (Option Value)) : Bool := decide (a = b)
def clsB (G : GI) (K : Frag) (c : ClI) : Bool :=
  decide (PySem.W.findIn K (.ref (He.ga K c.name)) "__getattribute__" = some (some (.builtin "BaseException.__getattribute__"))) &&
  (decide (PySem.W.findIn K (.ref (He.ga K c.name)) "__getattr__" = some none) &&
  (decide (PySem.W.subIn K (.ref (He.ga K c.name)) (.type "BaseException") = some true) &&
  (PySem.W.hasDictIn K (He.ga K c.name) &&
  (decide (PySem.W.findIn K (.ref (He.ga K c.name)) "__class__" = some (some (.builtin "object.__class__"))) &&
  (decide (PySem.W.mroIn K (He.ga K c.name) (.type "object") = some true) &&
  ((c.flds.all fun f => decide (PySem.W.findIn K (.ref (He.ga K c.name)) f = some none)) &&
  ((G.cls.all fun t => decide (PySem.W.kitOne K (.ref (He.ga K c.name)) (.ref (He.ga K t.name)) = some (decide (t.name ∈ c.ups))) && decide (PySem.W.exmOne K (.ref (He.ga K c.name)) (.ref (He.ga K t.name)) = some (decide (t.name ∈ c.ups)))) &&
  (bxs.all fun t => decide (PySem.W.kitOne K (.ref (He.ga K c.name)) (.type t.2) = some (decide (t.1 ∈ c.ups))) && decide (PySem.W.exmOne K (.ref (He.ga K c.name)) (.type t.2) = some (decide (t.1 ∈ c.ups)))))))))))
def clsK (K : Frag) : Bool := decide (PySem.W.specialIn K (.builtin "object.__class__") "__get__" = some (some (.builtin "getset_descriptor.__get__"))) && decide (PySem.W.takesIn K (.builtin "object.__class__") = some true)
section
variable {G : GI} {K : Frag} {mg : Str → Option Value}
theorem find_name {n : Str} (h : G.has n = true) : ∃ c ∈ G.cls, c.name = n ∧ G.flds n = c.flds ∧ G.ups n = c.ups := by
  obtain ⟨c0, hc0, hn0⟩ := List.any_eq_true.mp h
  cases hf : G.cls.find? (fun c => decide (c.name = n)) with
  | none => exact absurd hn0 (List.find?_eq_none.mp hf c0 hc0)
  | some c =>
    refine ⟨c, List.mem_of_find?_eq_some hf, ?_, ?_, ?_⟩
    · have := List.find?_some hf; exact of_decide_eq_true this
    · unfold GI.flds; rw [hf]
    · unfold GI.ups; rw [hf]
theorem clsB_ok (hg : ∀ t, G.has t = true → mg t = some (.ref (He.ga K t))) (hk : clsK K = true) (h : ∀ c ∈ G.cls, clsB G K c = true) {n : Str} {C : Addr} (hn : G.has n = true) (hC : mg n = some (.ref C)) : ClOk G K mg n C := by
  rw [hg n hn] at hC
  cases hC
  obtain ⟨c, hc, hcn, hfl, hup⟩ := find_name hn
  have hb := h c hc
  unfold clsB at hb
  rw [hcn] at hb
  simp only [Bool.and_eq_true, decide_eq_true_iff, List.all_eq_true] at hb
  obtain ⟨b1, b2, b3, b4, b5, b6, b7, b8, b9⟩ := hb
  unfold clsK at hk
  simp only [Bool.and_eq_true, decide_eq_true_iff] at hk
  refine ⟨b1, b2, b3, b4, b5, hk.1, hk.2, b6, fun f hf => b7 f (by rw [← hfl]; exact hf), fun t cv ht => ?_, fun t cv ht => ?_⟩
  · rw [hup]
    rcases ht with ⟨h1, h2⟩ | ⟨h1, h2, h3⟩
    · rw [hg t h1] at h2
      cases h2
      obtain ⟨c', hc', hn', _⟩ := find_name h1
      subst hn'
      exact (b8 c' hc').1
    · rw [biExc_bxs] at h1
      obtain ⟨q, hq, rfl⟩ := List.mem_map.mp h1
      rw [bxs_boot q hq] at h3
      cases h3
      exact (b9 q hq).1
  · rw [hup]
    rcases ht with ⟨h1, h2⟩ | ⟨h1, h2, h3⟩
    · rw [hg t h1] at h2
      cases h2
      obtain ⟨c', hc', hn', _⟩ := find_name h1
      subst hn'
      exact (b8 c' hc').2
    · rw [biExc_bxs] at h1
      obtain ⟨q, hq, rfl⟩ := List.mem_map.mp h1
      rw [bxs_boot q hq] at h3
      cases h3
      exact (b9 q hq).2
end
/-! ### the __init__s -/
structure IniX where
  cls : Str
  home : Str
  sf : Str
  name : Str
  qual : Str
  params : Arguments
  body : List Stmt
  scope : Scope
abbrev IniW : Type := Option (Str × Str × Arguments × FuncBody × Scope × Addr × List Str × Addr)
def iniAd (K : Frag) (x : Str) : Addr := He.ma K (He.ga K x) "__init__"
def iniW (K : Frag) (x : Str) : IniW := match K.lookup (iniAd K x) with
  | some ⟨_, _, .func fd, _⟩ => some (fd.name, fd.qualname, fd.params, fd.body, fd.scope, fd.globals, fd.closure.map (·.1), fd.builtins)
  | _ => none
def IniX.val (d : IniX) : IniW := some (d.name, d.qual, d.params, .stmts d.body, d.scope, mainGlobals, ["__class__"], builtinsNs)
def oexB (K : Frag) (C : Addr) : Bool := (match K.lookup C with
  | some ⟨.type c, _, .cls cd, sl⟩ => c == "type" && (match cd.mro, sl.toList with
    | .ref C' :: bm, [_, _, _, _, some (.builtin n), _] => (C' == C && (n == "ValueError.__new__" && (!cd.hasDel && (cd.hasDict && HandSPX.refsVE bm)))) 
    | _, _ => false)
  | _ => false) && (decide (PySem.W.findIn K (.ref C) "__setattr__" = some (some (.builtin "object.__setattr__"))) && (decide (PySem.W.subIn K (.ref C) (.type "BaseException") = some true) && (decide (PySem.W.typeIn K (.ref C) = some (.type "type")) && PySem.W.keepIn K (.ref C))))
theorem oexB_ok {K : Frag} {C : Addr} (h : oexB K C = true) : OexC K C := by
  unfold oexB at h
  simp only [Bool.and_eq_true, decide_eq_true_iff] at h
  obtain ⟨h1, h2, h3, h4, h5⟩ := h
  refine ⟨?_, h2, h3, h4, h5⟩
  split at h1
  · rename_i c dd cd sl ho
    rw [Bool.and_eq_true, beq_iff_eq] at h1
    obtain ⟨rfl, h1⟩ := h1
    split at h1
    · rename_i C' bm k0 k1 k2 k3 n k5 hm hs
      simp only [Bool.and_eq_true, beq_iff_eq, Bool.not_eq_true'] at h1
      obtain ⟨rfl, rfl, a3, a4, a5⟩ := h1
      obtain ⟨nm, bs, mro, ns, qn, hd, sn, sub, ab, col, del⟩ := cd
      dsimp only at hm a3 a4
      subst hm a3 a4
      have hsl : sl = #[k0, k1, k2, k3, some (.builtin "ValueError.__new__"), k5] := by
        apply Array.ext'
        simpa using hs
      subst hsl
      exact ⟨nm, qn, ns, bs, bm, sn, sub, ab, col, dd, k0, k1, k2, k3, k5, ho, a5⟩
    · cases h1
  · cases h1
def iniB (file : Str) (K : Frag) (fs : List Str) (d : IniX) : Bool :=
  oexB K (He.ga K d.cls) && ((fs.all fun f => decide (PySem.W.findIn K (.ref (He.ga K d.cls)) f = some none)) && (decide (PySem.W.mroIn K (He.ga K d.cls) (.ref (He.ga K d.home)) = some true) &&
  (decide (PySem.W.ks_superIn K (He.ga K d.cls) (He.ga K d.home) "__init__" = some (some (.builtin "ValueError.__init__"))) && (decide (PySem.W.subIn K (.ref (He.ga K d.cls)) (.type "ValueError") = some true) &&
  (decide (PySem.W.nsIn K cStatics "thirdparty.any" = some none) && (decide (PySem.W.findIn K (.ref (He.ga K d.cls)) "__init__" = some (some (.ref (iniAd K d.cls)))) && (decide (PySem.W.typeIn K (.ref (iniAd K d.cls)) = some (.type "function")) &&
  ((PySem.W.clsIn K (He.ga K d.home)).isSome && (match K.lookup (iniAd K d.cls) with
    | some ⟨_, _, .func fd, _⟩ => (match fd.code, fd.defaults, fd.closure with
      | .ref cda, .none, [(_, cc)] => PySem.W.codeIn K (.ref cda) d.qual && ((match K.lookup cda with
        | some ⟨_, _, .fields vs, _⟩ => (match (vs[2]? : Option Value) with
          | some (Value.str f _) => file == f
          | _ => false)
        | _ => false) && (match K.lookup cc with
        | some ⟨_, _, .cell (some (.ref D)), _⟩ => D == He.ga K d.home
        | _ => false))
      | _, _, _ => false)
    | _ => false)))))))))
/-- of the text alone -/
structure IniT (P : Program) (d : IniX) (fs : List Str) : Prop where
  pl : plainP d.params (d.sf :: fs) = true
  sc : IScope (d.sf :: fs) d.scope
  ks : d.scope.names.lookup ("super" : Str) = some .globalImplicit
  kc : d.scope.names.lookup ("__class__" : Str) = some .free
  body : ∃ (p0 p1 p2 p3 p4 p5 : Pos) (z : Str) (j : Nat) (rest : List Stmt), d.body = .Expr (.Call (.Attribute (.Call (.Name "super" p0) [] [] p1) "__init__" p2) [.Constant (.str z) j p3] [] p4) p5 :: rest ∧ SupEv p0 p1 p2 p3 p4 z j ∧ rest.mapM (stF d.sf) = some fs
  top : (P.main.scope.names.lookup ("super" : Str)).isSome = false
  few : fs.length ≤ 600
  ne : fs ≠ []
  dbg : ∀ x ∈ d.sf :: fs, (x == ("__debug__" : Str)) = false ∧ (x == ("__classdict__" : Str)) = false
theorem ini_of {P : Program} {K : Frag} {mg : Str → Option Value} {d : IniX} {c : ClI} (T : IniT P d c.flds.reverse) (hn : d.cls = c.name) (hsup : mg "super" = none) (hw : iniW K d.cls = d.val) (hb : iniB P.main.file K c.flds.reverse d = true) : ClsMk P K mg (He.ga K c.name) c := by
  unfold iniB at hb
  simp only [Bool.and_eq_true, decide_eq_true_iff, List.all_eq_true] at hb
  obtain ⟨b1, b2, b3, b4, b5, b6, b7, b8, b9, b10⟩ := hb
  rw [hn] at b1 b2 b3 b4 b5 b7
  obtain ⟨cdD, hcdD⟩ := Option.isSome_iff_exists.mp b9
  unfold iniW at hw
  split at hw
  · rename_i oc od fd osl hl
    rw [hl] at b10
    dsimp only at b10
    split at b10
    · rename_i cda x cc hcode hdef hclo
      simp only [Bool.and_eq_true] at b10
      obtain ⟨c1, c2, c3⟩ := b10
      obtain ⟨nm, qn, pr, bd, sc, gl, clo, df, kd, doc, pm, an, code, ct, bl⟩ := fd
      dsimp only at hcode hdef hclo
      subst hcode hdef hclo
      simp only [IniX.val, Option.some.injEq, Prod.mk.injEq, List.map_cons, List.map_nil, List.cons.injEq, and_true] at hw
      obtain ⟨rfl, rfl, rfl, rfl, rfl, rfl, rfl, rfl⟩ := hw
      refine .init (f := iniAd K d.cls) (D := He.ga K d.home) (sf := d.sf) (fd := PySem.W.ksFn d.name d.qual d.params d.body d.scope .none kd doc pm an (.ref cda) ct cc) (fun z => T.ne (by rw [z]; rfl)) (by rw [b7, hn]) b8 ⟨?_, ⟨_, hcdD⟩, T.top, hsup, T.few, T.ne, T.dbg⟩ ⟨oexB_ok b1, b2, b3, b4, b5, b6⟩
      refine ⟨oc, od, osl, d.name, d.qual, d.params, d.body, d.scope, kd, doc, pm, ct, an, cda, cc, rfl, hl, c1, T.pl, T.sc, T.ks, T.kc, T.body, ?_, ?_⟩
      · split at c2
        · rename_i e1 e2 vs e3 e4
          split at c2
          · rename_i f tf e5
            exact ⟨e1, e2, vs, e3, f, tf, e4, e5, c2⟩
          · cases c2
        · cases c2
      · split at c3
        · rename_i e1 e2 D e3 e4
          rw [beq_iff_eq] at c3
          subst c3
          exact ⟨e1, e2, e3, e4⟩
        · cases c3
    · cases b10
  · cases hw
end Pv


/-! the head's Hook; the law's end -/
namespace Pv
open PySem PySem.Spec L2
open PyProof.Rows hiding St
open PySem.W (Frag)

structure Prg where
  prog : Program
  G : GI
  ini : List IniX
def Prg.fa (p : Prg) : List He.Fa := (p.G.fns.map fun f => .glo f.name) ++ ((p.G.cls.map fun c => .glo c.name) ++ ((biNames.map .free) ++ ((biExc.map .free) ++ [.free "super"])))
def Prg.fn (p : Prg) : List He.DefD := p.G.fns.map fun f => ⟨(f.name, none), f.name, f.name, f.params, f.body, f.scope, [], []⟩
def Prg.ex (p : Prg) (K : Frag) : Bool := clsK K && ((p.G.cls.all fun c => clsB p.G K c && (if c.flds = [] then PySem.W.excIn K (He.ga K c.name) He.veBase "ValueError.__new__" && (PySem.W.keepIn K (.ref (He.ga K c.name)) && (decide (PySem.W.subIn K (.ref (He.ga K c.name)) (.type "BaseException") = some true) && decide (PySem.W.typeIn K (.ref (He.ga K c.name)) = some (.type "type")))) else p.ini.any fun d => decide (d.cls = c.name) && iniB p.prog.main.file K c.flds.reverse d)) && p.G.cons.all (conB K))
def isLst (o : Obj) : Bool := match o.cls with
  | .type c => c == "list"
  | _ => false
def frP (n : Nat) (g : Addr → Option Obj) : Frag := (He.frG g (He.asD g n ++ [cStatics])).filter fun q => !isLst q.2
theorem lookup_memF : ∀ {K : Frag} {a : Addr} {o : Obj}, K.lookup a = some o → (a, o) ∈ K
  | [], _, _, h => by cases h
  | (b, u) :: K, a, o, h => by
    rw [List.lookup_cons] at h
    cases hx : a == b with
    | true => rw [hx] at h; cases h; rw [beq_iff_eq] at hx; subst hx; exact List.mem_cons_self
    | false => rw [hx] at h; exact List.mem_cons_of_mem _ (lookup_memF h)
theorem frP_in {n : Nat} {h : Heap} : (frP n h.get?).In h := fun a o e => He.frG_mem (List.mem_filter.mp (lookup_memF e)).1
theorem frP_no {n : Nat} {g : Addr → Option Obj} : ∀ a o, (frP n g).lookup a = some o → isLst o = false := fun a o e => by
  have := (List.mem_filter.mp (lookup_memF e)).2
  simpa using this
abbrev AlP : Type := He.AlD × (Bool × List IniW)
def Prg.obsK (p : Prg) (K : Frag) : AlP := (He.obsD p.fa p.fn K, (p.ex K, p.ini.map fun d => iniW K d.cls))
def Prg.val (p : Prg) : AlP := (He.valD p.fn, (true, p.ini.map IniX.val))
def Prg.obsG (p : Prg) (n : Nat) (g : Addr → Option Obj) : AlP := p.obsK (frP n g)
def Prg.hook (p : Prg) (n : Nat) : PySem.W.Hook where
  α := AlP
  obs := fun s => p.obsG n s.heap.get?
  val := fun _ => p.val
  says := fun _ h => ∃ K : Frag, K.In h ∧ (∀ a o, K.lookup a = some o → isLst o = false) ∧ p.obsK K = p.val
  of := fun _ _ e => ⟨_, frP_in, frP_no, e⟩
  keeps := fun _ _ _ ⟨K, hK, c⟩ k => ⟨K, PySem.W.Frag.In.keeps hK k, c⟩
theorem Prg.obsG_eq {p : Prg} {n : Nat} {g : Addr → Option Obj} {s : Shared} (h : ∀ a, g a = s.heap.get? a) : p.obsG n g = (p.hook n).obs s := by
  have e : g = s.heap.get? := funext h
  rw [e] <;> rfl
/-- what the text alone shows -/
def scB (f : FnI) : Bool := (f.scope.kind == .function) && ((f.scope.isCoroutine == false) && ((f.scope.isGenerator == false) && (decide f.N.Nodup && (decide (f.N.take f.ps.length = f.ps) && ((f.ps.all fun x => decide (f.scope.names.lookup x = some .local) || decide (f.scope.names.lookup x = some .cell)) && (f.scope.names.all fun y => !(y.2 == .free)))))))
theorem scB_ok {f : FnI} (h : scB f = true) : FnScope f.N f.ps f.scope := by
  unfold scB at h
  simp only [Bool.and_eq_true, beq_iff_eq, decide_eq_true_iff, List.all_eq_true, Bool.or_eq_true, Bool.not_eq_true', beq_eq_false_iff_ne] at h
  obtain ⟨h1, h2, h3, h4, h5, h6, h7⟩ := h
  exact ⟨h1, h2, h3, h4, h5, h6, h7⟩
structure Prg.Ok (p : Prg) : Prop where
  fns : (p.G.fns.all fun f => plainP f.params f.ps && scB f) = true
  ini : ∀ d ∈ p.ini, ∀ fs, p.G.flds d.cls = fs → IniT p.prog d fs.reverse
  cls : (p.G.cls.all fun c => decide (p.G.flds c.name = c.flds)) = true
  bxo : True
section
variable {p : Prg} {w : World} {K : Frag} {h base : Heap} {mg : Str → Option Value}
theorem Prg.gst (ok : p.Ok) (X : K.In h) (G : h.Ns mainGlobals mg) (c : p.obsK K = p.val) : GSt (gxOf p.G mg) p.G p.prog w K mg base := by
  have cD : He.SaysD p.fa p.fn K := congrArg (fun z : AlP => z.1) c
  have cX : p.ex K = true := congrArg (fun z : AlP => z.2.1) c
  have cI : p.ini.map (fun d => iniW K d.cls) = p.ini.map IniX.val := congrArg (fun z : AlP => z.2.2) c
  have glo : ∀ {x : Str}, He.Fa.glo x ∈ p.fa → mg x = some (.ref (He.ga K x)) := fun hx => He.glo_ok X G (cD.facts hx)
  have fre : ∀ {x : Str}, He.Fa.free x ∈ p.fa → mg x = none := fun hx => He.free_ok X G (cD.facts hx)
  have gloF : ∀ f ∈ p.G.fns, mg f.name = some (.ref (He.ga K f.name)) := fun f hf => glo (by unfold Prg.fa; exact List.mem_append_left _ (List.mem_map.mpr ⟨f, hf, rfl⟩))
  have gloC : ∀ f ∈ p.G.cls, mg f.name = some (.ref (He.ga K f.name)) := fun f hf => glo (by unfold Prg.fa; exact List.mem_append_right _ (List.mem_append_left _ (List.mem_map.mpr ⟨f, hf, rfl⟩)))
  have freB : ∀ x ∈ biNames, mg x = none := fun x hx => fre (by unfold Prg.fa; exact List.mem_append_right _ (List.mem_append_right _ (List.mem_append_left _ (List.mem_map.mpr ⟨x, hx, rfl⟩))))
  have freX : ∀ x ∈ biExc, mg x = none := fun x hx => fre (by unfold Prg.fa; exact List.mem_append_right _ (List.mem_append_right _ (List.mem_append_right _ (List.mem_append_left _ (List.mem_map.mpr ⟨x, hx, rfl⟩)))))
  have freS : mg "super" = none := fre (by unfold Prg.fa; exact List.mem_append_right _ (List.mem_append_right _ (List.mem_append_right _ (List.mem_append_right _ (by simp)))))
  have gloN : ∀ t, p.G.has t = true → mg t = some (.ref (He.ga K t)) := fun t ht => by
    obtain ⟨c0, hc0, rfl, _⟩ := find_name ht
    exact gloC c0 hc0
  unfold Prg.ex at cX
  simp only [Bool.and_eq_true, List.all_eq_true] at cX
  obtain ⟨x1, x2, x3⟩ := cX
  have hfn := List.all_eq_true.mp ok.fns
  refine ⟨freB, fun i f hi => ?_, fun n C hn hC => clsB_ok gloN x1 (fun c hc => (x2 c hc).1) hn hC, fun t ht => ?_, fun X' e1 e2 e3 e4 e5 hr c0 hc0 => ?_, fun x d hd => ?_⟩
  · have hf := List.mem_of_getElem? hi
    have hb := hfn f hf
    rw [Bool.and_eq_true] at hb
    obtain ⟨fd, F⟩ := cD.defs (d := ⟨(f.name, none), f.name, f.name, f.params, f.body, f.scope, [], []⟩) (List.mem_map.mpr ⟨f, hf, rfl⟩)
    exact ⟨_, fd, gloF f hf, F.kp, F, hb.1, scB_ok hb.2⟩
  · unfold GI.clsName at ht
    rw [Bool.or_eq_true] at ht
    rcases ht with ht | ht
    · exact ⟨_, .inl ⟨ht, gloN t ht⟩, .inl ⟨_, rfl⟩⟩
    · have ht := of_decide_eq_true ht
      have ht' := ht
      rw [biExc_bxs] at ht'
      obtain ⟨q, hq, rfl⟩ := List.mem_map.mp ht'
      exact ⟨.type q.2, .inr ⟨ht, freX _ ht, bxs_boot q hq⟩, .inr ⟨_, rfl⟩⟩
  · subst e3 e4
    refine ⟨_, gloC c0 hc0, fun hg hd {e es ta pp pos} ha hs hp => ?_⟩
    have key : ClsMk p.prog X'.K X'.mg (He.ga X'.K c0.name) c0 := ?_
    · exact mk_of (C := He.ga X'.K c0.name) (by rw [e1]; exact key) (gloC c0 hc0) hr hg hd ha hs hp
    obtain ⟨_, y⟩ := x2 c0 hc0
    split at y
    · rename_i hn
      simp only [Bool.and_eq_true, decide_eq_true_iff] at y
      exact .plain hn y.1 y.2.1 y.2.2.1 y.2.2.2
    · obtain ⟨d, hd2, hd3⟩ := List.any_eq_true.mp y
      rw [Bool.and_eq_true, decide_eq_true_iff] at hd3
      have hfl : p.G.flds d.cls = c0.flds := by
        rw [hd3.1]
        exact of_decide_eq_true (List.all_eq_true.mp ok.cls c0 hc0)
      have hw : iniW X'.K d.cls = d.val := by
        have : ∀ {l : List IniX}, l.map (fun d => iniW X'.K d.cls) = l.map IniX.val → d ∈ l → iniW X'.K d.cls = d.val := by
          intro l
          induction l with
          | nil => intro _ h; cases h
          | cons a l ih =>
            intro e h
            rw [List.map_cons, List.map_cons] at e
            injection e with e1 e2
            rcases List.mem_cons.mp h with rfl | h
            · exact e1
            · exact ih e2 h
        exact this cI hd2
      exact ini_of (ok.ini d hd2 _ hfl) hd3.1 freS hw hd3.2
  · have hm : (x, d) ∈ p.G.cons := by
      have : ∀ {l : List (Str × PyData)}, l.lookup x = some d → (x, d) ∈ l := by
        intro l
        induction l with
        | nil => intro h; cases h
        | cons q l ih =>
          obtain ⟨y, e⟩ := q
          intro h
          rw [List.lookup_cons] at h
          cases hx : x == y with
          | true => rw [hx] at h; cases h; rw [beq_iff_eq] at hx; subst hx; exact List.mem_cons_self
          | false => rw [hx] at h; exact List.mem_cons_of_mem _ (ih h)
      exact this hd
    have hb := x3 _ hm
    unfold conB at hb
    split at hb
    · rename_i u hu
      obtain ⟨v, rv, rp⟩ := dataB_ok d u hb
      exact ⟨u, v, PySem.W.mg_of X G hu, rv, rp⟩
    · cases hb
end
end Pv


namespace Pv
open PySem PySem.Spec L2
open PyProof.Rows hiding St
open PySem.W (Frag)

theorem fnok0 {P : Program} {w : World} {K : Frag} {mg : Str → Option Value} {base : Heap} {k : Nat} {f : Addr} {fd : FuncData} {ps : List Str} {sp : Sp} (F : FnOk P w K mg base (L2.CX P w) k f fd ps sp) :
    FnOk P w K mg base CX0 k f fd ps (fun vs H Q _ => sp vs H Q fun _ _ _ => False) := by
  refine ⟨fun vs H Q E h => F.len _ _ _ _ h, fun A outer s H args us vs Q E hr e0 hb r h => ?_⟩
  refine codeAny_mono (F.run A outer s H args us vs Q _ hr e0 hb r h) fun q s' z => ?_
  cases q with
  | ok fl => cases fl <;> exact z
  | error e =>
    obtain ⟨_, _, _, _, _, _, _, _, _, _, _, _, z⟩ := z
    exact z.elim
theorem sqL_rd {K : Frag} {H : Hp} {a : Addr} {xs : List V} (no : ∀ a o, K.lookup a = some o → isLst o = false) (h : SqL K H a xs) : Rd H a (.lst xs) := by
  rcases h with h | ⟨o, its, n, h1, h2, _⟩
  · exact h
  · have := no a o h1
    unfold isLst at this
    rw [h2] at this
    cases this
theorem rps_ints {K : Frag} {F : Addr → Prop} {H : Hp} : ∀ ns : List Int, Rps K F H (ns.map PyData.int) (ns.map V.int)
  | [] => rfl
  | n :: ns => ⟨.int n, _, rfl, rfl, rps_ints ns⟩
theorem Prg.walk {p : Prg} (ok : p.Ok) {wn fu k i n : Nat} {f : FnI} {x : Str} (hi : p.G.fns[i]? = some f) (hps : f.ps = [x]) (law : ∀ ns : List Int, ns.length ≤ n → PhN p.G wn fu k i [.list (ns.map .int)] = .ok (.bool true))
    {w : World} {K : Frag} {h : Heap} {mg : Str → Option Value} {fa : Addr} (X : K.In h) (no : ∀ a o, K.lookup a = some o → isLst o = false) (c : p.obsK K = p.val) (G : h.Ns mainGlobals mg) (hfa : mg f.name = some (.ref fa)) :
    ∃ (K : Frag) (fd : FuncData) (sp : Sp), K.In h ∧ (∀ (s : Shared) (u : Value), BindsTo s fd ⟨[u], []⟩ [(x, u)]) ∧
      (∀ (H : Hp) (a : Addr) (ns : List Int), ns.length ≤ n → Only H → SqL K H a (ns.map V.int) → sp [.ref a] H (fun v _ => v = .bl true) fun _ _ _ => False) ∧
      ∀ base : Heap, K.In base → base.Ns mainGlobals mg → FnOk p.prog w K mg base CX0 (k + 2) fa fd [x] sp := by
  have st : ∀ base, GSt (gxOf p.G mg) p.G p.prog w K mg base := fun base => Prg.gst ok X G c
  obtain ⟨a0, fd, h1, h2, F, h3, S⟩ := (st h).fns i f hi
  rw [hfa] at h1
  cases h1
  refine ⟨K, fd, fun vs H Q _ => spF K (gxOf p.G mg) (PhN p.G wn fu k) 1 i vs H Q fun _ _ _ => False, X, fun s u => ?_, fun H a ns hl _ hS => ?_, fun base _ _ => ?_⟩
  · have b := FunD.bindsA (ps := f.ps) F (fun _ _ _ _ _ _ us hl => bind_plain h3 hl) s [u] (by rw [hps]; rfl)
    rw [hps] at b
    exact b
  · refine ⟨rfl, fun _ => False, [.list (ns.map .int)], fun _ z => z.elim, ⟨.ref a, [], rfl, ⟨a, _, rfl, fun z => z, sqL_rd no hS, rps_ints ns⟩, rfl⟩, ?_⟩
    rw [law ns hl]
    exact fun v H' _ r => r
  · cases k with
    | zero => have := law [] (Nat.zero_le _); cases this
    | succ k =>
      have g := fn_sound (w := w) F S hi (gok (st base) rfl rfl rfl (wn := wn) (fu := fu) k) rfl rfl rfl
      rw [hps] at g
      exact fnok0 g
end Pv


namespace Pv
open PySem PySem.Spec L2
open PyProof.Rows hiding St
/-! reckoning with known data -/
@[simp] theorem noDic_none : noDic .none = true := Eq.symm (Eq.symm rfl)
@[simp] theorem noDic_bool (b : Bool) : noDic (.bool b) = true := Eq.symm (Eq.symm rfl)
@[simp] theorem noDic_int (b : Int) : noDic (.int b) = true := Eq.symm (Eq.symm rfl)
@[simp] theorem noDic_str (b : Str) : noDic (.str b) = true := Eq.symm (Eq.symm rfl)
@[simp] theorem noDic_list (b : List PyData) : noDic (.list b) = noDics b := by rw [noDic]
@[simp] theorem noDic_tuple (b : List PyData) : noDic (.tuple b) = noDics b := by rw [noDic]
@[simp] theorem noDics_nil : noDics [] = true := Eq.symm (Eq.symm rfl)
@[simp] theorem noDics_cons' (b : PyData) (bs : List PyData) : noDics (b :: bs) = (noDic b && noDics bs) := by rw [noDics]
theorem noDics_all : ∀ {ds : List PyData}, (∀ d ∈ ds, noDic d = true) → noDics ds = true
  | [], _ => rfl
  | d :: ds, h => by
    rw [noDics_cons', h d List.mem_cons_self, noDics_all fun x hx => h x (List.mem_cons_of_mem _ hx)]
    rfl
theorem noDics_ints (l : List Int) : noDics (l.map .int) = true := noDics_all fun d hd => by
  obtain ⟨x, _, rfl⟩ := List.mem_map.mp hd
  rfl
theorem noDics_strs (l : List Str) : noDics (l.map .str) = true := noDics_all fun d hd => by
  obtain ⟨x, _, rfl⟩ := List.mem_map.mp hd
  rfl
@[simp] theorem eqD_int (a b : Int) : eqD (.int a) (.int b) = .ok (.bool (decide (a = b))) := by
  simp [eqD, shal, PyData.depth, PyData.eqv, Bool.beq_eq_decide_eq]
@[simp] theorem eqD_str (a b : Str) : eqD (.str a) (.str b) = .ok (.bool (decide (a = b))) := by
  simp [eqD, shal, PyData.depth, PyData.eqv, Bool.beq_eq_decide_eq]
@[simp] theorem neD_int (a b : Int) : neD (.int a) (.int b) = .ok (.bool (!decide (a = b))) := by
  simp [neD, shal, PyData.depth, PyData.eqv, Bool.beq_eq_decide_eq]
@[simp] theorem neD_bool (a b : Bool) : neD (.bool a) (.bool b) = .ok (.bool (!decide (a = b))) := by
  cases a <;> cases b <;> rfl
@[simp] theorem eqD_bool (a b : Bool) : eqD (.bool a) (.bool b) = .ok (.bool (decide (a = b))) := by
  cases a <;> cases b <;> rfl
@[simp] theorem ltD_int (a b : Int) : ltD (.int a) (.int b) = .ok (.bool (decide (a < b))) := by
  simp [ltD, cmpOk, shal, PyData.depth, PySem.W.alike, PySem.W.dataLt_int]
@[simp] theorem gtD_int (a b : Int) : gtD (.int a) (.int b) = .ok (.bool (decide (b < a))) := by
  simp [gtD, cmpOk, shal, PyData.depth, PySem.W.alike, PySem.W.dataLt_int]
@[simp] theorem leD_int (a b : Int) : leD (.int a) (.int b) = .ok (.bool (decide (a ≤ b))) := by
  have : (!decide (b < a)) = decide (a ≤ b) := by
    by_cases h : a ≤ b
    · simp [h, Int.not_lt.mpr h]
    · simp [h, Int.not_le.mp h]
  simp [leD, cmpOk, shal, PyData.depth, PySem.W.alike, PySem.W.dataLt_int, this]
@[simp] theorem geD_int (a b : Int) : geD (.int a) (.int b) = .ok (.bool (decide (b ≤ a))) := by
  have : (!decide (a < b)) = decide (b ≤ a) := by
    by_cases h : b ≤ a
    · simp [h, Int.not_lt.mpr h]
    · simp [h, Int.not_le.mp h]
  simp [geD, cmpOk, shal, PyData.depth, PySem.W.alike, PySem.W.dataLt_int, this]
@[simp] theorem isD_none (d : PyData) : isD d .none = .ok (.bool (isNoneD d)) := by cases d <;> rfl
@[simp] theorem isntD_none (d : PyData) : isntD d .none = .ok (.bool (!isNoneD d)) := by cases d <;> rfl
@[simp] theorem addD_int (a b : Int) : addD (.int a) (.int b) = .ok (.int (a + b)) := rfl
@[simp] theorem subD_int (a b : Int) : subD (.int a) (.int b) = .ok (.int (a - b)) := rfl
theorem ixT {ds : List PyData} {i : Int} {d : PyData} (h : atI ds i = some d) : ixD (.tuple ds) (.int i) = .ok d := by
  simp only [ixD, h]
theorem ixL {ds : List PyData} {i : Int} {d : PyData} (h : atI ds i = some d) : ixD (.list ds) (.int i) = .ok d := by
  simp only [ixD, h]
theorem atI_nat {α : Type} {ds : List α} {i : Nat} {d : α} (h : ds[i]? = some d) : atI ds (i : Int) = some d := by
  obtain ⟨hl, _⟩ := List.getElem?_eq_some_iff.mp h
  unfold atI ixN
  rw [if_pos (Int.natCast_nonneg i), if_pos (by omega)]
  simpa using h
theorem ixT_nat {ds : List PyData} {i : Nat} {d : PyData} (h : ds[i]? = some d) : ixD (.tuple ds) (.int (i : Int)) = .ok d := ixT (atI_nat h)
theorem ixL_nat {ds : List PyData} {i : Nat} {d : PyData} (h : ds[i]? = some d) : ixD (.list ds) (.int (i : Int)) = .ok d := ixL (atI_nat h)
@[simp] theorem ixT_0 (a : PyData) (ds : List PyData) : ixD (.tuple (a :: ds)) (.int 0) = .ok a := ixT_nat (i := 0) rfl
@[simp] theorem ixT_1 (a b : PyData) (ds : List PyData) : ixD (.tuple (a :: b :: ds)) (.int 1) = .ok b := ixT_nat (i := 1) rfl
@[simp] theorem ixL_0 (a : PyData) (ds : List PyData) : ixD (.list (a :: ds)) (.int 0) = .ok a := ixL_nat (i := 0) rfl
@[simp] theorem ixL_1 (a b : PyData) (ds : List PyData) : ixD (.list (a :: b :: ds)) (.int 1) = .ok b := ixL_nat (i := 1) rfl
/-! loops -/
/-- a comprehension that reckons f of those that p takes -/
theorem compL_map {g : Tg} {t : CT} {e : CE} {ρ : En} {p : PyData → Bool} {f : PyData → PyData} : ∀ {ds : List PyData}, (∀ d ∈ ds, ∃ ρ', tgSet g d ρ = .ok ρ' ∧ t ρ' = .ok (p d) ∧ (p d = true → e ρ' = .ok (f d))) → compL g t e ρ ds = .ok ((ds.filter p).map f)
  | [], _ => rfl
  | d :: ds, h => by
    obtain ⟨ρ', h1, h2, h3⟩ := h d List.mem_cons_self
    have ih := compL_map (g := g) (t := t) (e := e) (ρ := ρ) (p := p) (f := f) (ds := ds) fun d hd => h d (List.mem_cons_of_mem _ hd)
    unfold compL
    rw [h1, R.bind_ok, h2, R.bind_ok]
    cases hp : p d with
    | true => rw [if_pos rfl, h3 hp, R.bind_ok, ih, R.bind_ok, List.filter_cons, hp, if_pos rfl, List.map_cons]
    | false => rw [if_neg (by simp), ih, List.filter_cons, hp, if_neg (by simp)]
theorem compL_all {g : Tg} {e : CE} {ρ : En} {f : PyData → PyData} {ds : List PyData} (h : ∀ d ∈ ds, ∃ ρ', tgSet g d ρ = .ok ρ' ∧ e ρ' = .ok (f d)) : compL g tYesC e ρ ds = .ok (ds.map f) := by
  have := compL_map (g := g) (t := tYesC) (e := e) (ρ := ρ) (p := fun _ => true) (f := f) (ds := ds) fun d hd => by
    obtain ⟨ρ', h1, h2⟩ := h d hd
    exact ⟨ρ', h1, rfl, fun _ => h2⟩
  rw [this, List.filter_eq_self.mpr (fun _ _ => rfl)]
/-- a loop, turn by turn -/
theorem forL_steps {g : Tg} {b : CS} {S : List PyData → En} : ∀ {ds done : List PyData}, (∀ done d rest, done ++ d :: rest = done ++ d :: rest → ∃ ρ', tgSet g d (S done) = .ok ρ' ∧ b ρ' = .nx (S (done ++ [d]))) → forL g b ds (S done) = .nx (S (done ++ ds))
  | [], done, _ => by simp [forL]
  | d :: ds, done, h => by
    obtain ⟨ρ', h1, h2⟩ := h done d ds rfl
    unfold forL
    rw [h1]
    show (match b ρ' with | .nx ρ' => forL g b ds ρ' | .ct ρ' => forL g b ds ρ' | .bk ρ' => .nx ρ' | r => r) = _
    rw [h2]
    show forL g b ds (S (done ++ [d])) = _
    rw [forL_steps h]
    simp

/-! the makers, applied -/
section
variable (ρ : En)
@[simp] theorem cVar_ap (i : Nat) : cVar i ρ = (match ρ[i]? with | some (.dat d false) => .ok d | _ => .bad) := Eq.symm (Eq.symm rfl)
@[simp] theorem cVarB_ap (i : Nat) : cVarB i ρ = (match ρ[i]? with | some (.dat d _) => .ok d | _ => .bad) := Eq.symm (Eq.symm rfl)
@[simp] theorem cK_ap (d : PyData) : cK d ρ = .ok d := Eq.symm (Eq.symm rfl)
@[simp] theorem c1_ap (g : PyData → R PyData) (a : CE) : c1 g a ρ = (a ρ).bind fun x => quiet (g x) := Eq.symm (Eq.symm rfl)
@[simp] theorem c2_ap (g : PyData → PyData → R PyData) (a b : CE) : c2 g a b ρ = (a ρ).bind fun x => (b ρ).bind fun y => quiet (g x y) := Eq.symm (Eq.symm rfl)
@[simp] theorem cMe_ap (g : PyData → PyData → R PyData) (a b : CE) : cMe g a b ρ = (a ρ).bind fun x => match x with | .list ds => (b ρ).bind fun y => quiet (g (.list ds) y) | _ => .bad := Eq.symm (Eq.symm rfl)
@[simp] theorem cCh_ap (g h : PyData → PyData → R PyData) (a b c : CE) : cCh g h a b c ρ = (a ρ).bind fun x => (b ρ).bind fun y => (quiet (g x y)).bind fun z => match z with | .bool true => (c ρ).bind fun w => quiet (h y w) | .bool false => .ok (.bool false) | _ => .bad := Eq.symm (Eq.symm rfl)
@[simp] theorem cTup_ap (as : List CE) : cTup as ρ = (cAll as ρ).bind fun ds => if ds.length ≤ 1000 then .ok (.tuple ds) else .bad := Eq.symm (Eq.symm rfl)
@[simp] theorem cLst_ap (as : List CE) : cLst as ρ = (cAll as ρ).bind fun ds => if ds.length ≤ 1000 then .ok (.list ds) else .bad := Eq.symm (Eq.symm rfl)
@[simp] theorem cAll_nil : cAll [] ρ = .ok [] := Eq.symm (Eq.symm rfl)
@[simp] theorem cAll_cons (a : CE) (as : List CE) : cAll (a :: as) ρ = (a ρ).bind fun d => (cAll as ρ).bind fun ds => .ok (d :: ds) := Eq.symm (Eq.symm rfl)
@[simp] theorem cTst_ap (a : CE) : cTst a ρ = (a ρ).bind fun d => quiet (isB d) := Eq.symm (Eq.symm rfl)
@[simp] theorem cNotT_ap (t : CT) : cNotT t ρ = (t ρ).bind fun b => .ok (!b) := Eq.symm (Eq.symm rfl)
@[simp] theorem cAndT_ap (t u : CT) : cAndT t u ρ = (t ρ).bind fun b => if b = true then u ρ else .ok false := Eq.symm (Eq.symm rfl)
@[simp] theorem cOrT_ap (t u : CT) : cOrT t u ρ = (t ρ).bind fun b => if b = true then .ok true else u ρ := Eq.symm (Eq.symm rfl)
@[simp] theorem cNotV_ap (a : CE) : cNotV a ρ = (a ρ).bind fun d => (quiet (isB d)).bind fun b => .ok (.bool (!b)) := Eq.symm (Eq.symm rfl)
@[simp] theorem cAndV_ap (a b : CE) : cAndV a b ρ = (a ρ).bind fun d => (quiet (isB d)).bind fun k => if k = true then b ρ else .ok (.bool false) := Eq.symm (Eq.symm rfl)
@[simp] theorem cOrV_ap (a b : CE) : cOrV a b ρ = (a ρ).bind fun d => (quiet (isB d)).bind fun k => if k = true then .ok (.bool true) else b ρ := Eq.symm (Eq.symm rfl)
@[simp] theorem cIfE_ap (t : CT) (a b : CE) : cIfE t a b ρ = (t ρ).bind fun k => if k = true then a ρ else b ρ := Eq.symm (Eq.symm rfl)
@[simp] theorem optI_none : optI none ρ = .ok none := Eq.symm (Eq.symm rfl)
@[simp] theorem optI_some (c : CE) : optI (some c) ρ = (c ρ).bind fun d => match d with | .int i => .ok (some i) | _ => .bad := Eq.symm (Eq.symm rfl)
@[simp] theorem cSl_ap (a : CE) (lo hi : Option CE) : cSl a lo hi ρ = (a ρ).bind fun d => (optI lo ρ).bind fun l => (optI hi ρ).bind fun h => slD d l h := Eq.symm (Eq.symm rfl)
@[simp] theorem cCall_ap (Φ : Ph) (f : Nat) (as : List CE) (os : List (Option Nat)) : cCall Φ f as os ρ = (cAll as ρ).bind fun ds => guardF (ownAny os ρ) (Φ f ds) := Eq.symm (Eq.symm rfl)
@[simp] theorem cComp_ap (it : CI) (vs : List Nat) (g : Tg) (t : CT) (e : CE) : cComp it vs g t e ρ = (it ρ).bind fun ds => if vs.any (ownAt ρ) = true then .bad else (quiet (compL g t e (wipeE ρ vs) ds)).bind fun ys => .ok (.list ys) := Eq.symm (Eq.symm rfl)
@[simp] theorem cItE_ap (a : CE) : cItE a ρ = (a ρ).bind fun d => quiet (itD d) := Eq.symm (Eq.symm rfl)
@[simp] theorem cRange1_ap (a : CE) : cRange1 a ρ = (a ρ).bind fun d => (quiet (intB d)).bind fun i => if i ≤ 16000000 then .ok (rangeL 0 i) else .bad := Eq.symm (Eq.symm rfl)
@[simp] theorem cRange2_ap (a b : CE) : cRange2 a b ρ = (a ρ).bind fun d => (b ρ).bind fun e => (quiet (intB d)).bind fun i => (quiet (intB e)).bind fun j => if j - i ≤ 16000000 then .ok (rangeL i j) else .bad := Eq.symm (Eq.symm rfl)
@[simp] theorem cRgS_ap (l : Bool) (a : CE) : cRgS l a ρ = (cRange1 a ρ).bind fun ds => .ok (if l = true then .list ds else .tuple ds) := Eq.symm (Eq.symm rfl)
@[simp] theorem disow_ap (is : List Nat) (c : CS) : disow is c ρ = c (disL is ρ) := Eq.symm (Eq.symm rfl)
@[simp] theorem sSet_ap (i : Nat) (fr : Bool) (c : CE) : sSet i fr c ρ = (match c ρ with | .ok d => .nx (ρ.set i (.dat d (fr && isL d))) | .exc n ds => .exc n ds ρ | .bad => .bad) := Eq.symm (Eq.symm rfl)
@[simp] theorem sTg_ap (g : Tg) (c : CE) : sTg g c ρ = (match c ρ with | .ok d => (match tgSet g d ρ with | .ok ρ' => .nx ρ' | _ => .bad) | .exc n ds => .exc n ds ρ | .bad => .bad) := Eq.symm (Eq.symm rfl)
@[simp] theorem sRet_ap (c : CE) : sRet c ρ = (match c ρ with | .ok d => .rt d | .exc n ds => .exc n ds ρ | .bad => .bad) := Eq.symm (Eq.symm rfl)
@[simp] theorem sDrop_ap (c : CE) : sDrop c ρ = (match c ρ with | .ok _ => .nx ρ | .exc n ds => .exc n ds ρ | .bad => .bad) := Eq.symm (Eq.symm rfl)
@[simp] theorem sApp_ap (i : Nat) (c : CE) : sApp i c ρ = (match ρ[i]? with
  | some (.dat (.list ds) true) => (match c ρ with
    | .ok d => if ds.length < 16000000 then .nx (ρ.set i (.dat (.list (ds ++ [d])) true)) else .bad
    | .exc n es => .exc n es ρ
    | .bad => .bad)
  | _ => .bad) := Eq.symm (Eq.symm rfl)
@[simp] theorem sPut_ap (i : Nat) (cj c : CE) : sPut i cj c ρ = (match ρ[i]? with
  | some (.dat (.list ds) true) => (match c ρ with
    | .ok d => (match cj ρ with
      | .ok (.int j) => (match ixN ds.length j with
        | some n => .nx (ρ.set i (.dat (.list (ds.set n d)) true))
        | none => .bad)
      | _ => .bad)
    | .exc n es => .exc n es ρ
    | .bad => .bad)
  | some (.dat (.dict kvs) true) => (match c ρ with
    | .ok d => (match cj ρ with
      | .ok k => (match keyK k with
        | some κ => if allK kvs = true ∧ kvs.length < 16000000 then .nx (ρ.set i (.dat (.dict (putG keyK kD κ d kvs)) true)) else .bad
        | none => .bad)
      | _ => .bad)
    | .exc n es => .exc n es ρ
    | .bad => .bad)
  | _ => .bad) := Eq.symm (Eq.symm rfl)
@[simp] theorem sPutT_ap (i : Nat) (cs : List CE) (c : CE) : sPutT i cs c ρ = (match ρ[i]? with
  | some (.dat (.dict kvs) true) => (match c ρ with
    | .ok d => (match cAll cs ρ with
      | .ok ks => (match keysK ks with
        | some κ => if allT kvs = true ∧ kvs.length < 16000000 ∧ ks.length ≤ 1000 then .nx (ρ.set i (.dat (.dict (putG keyT kTD κ d kvs)) true)) else .bad
        | none => .bad)
      | _ => .bad)
    | .exc n es => .exc n es ρ
    | .bad => .bad)
  | _ => .bad) := Eq.symm (Eq.symm rfl)
@[simp] theorem cGet1_ap (a b : CE) : cGet1 a b ρ = (a ρ).bind fun d => match d with
  | .dict kvs => (b ρ).bind fun k => (match keyK k with
    | some κ => if allK kvs = true then .ok ((fndG keyK κ kvs).getD .none) else .bad
    | none => .bad)
  | _ => .bad := Eq.symm (Eq.symm rfl)
@[simp] theorem cGet2_ap (a b c : CE) : cGet2 a b c ρ = (a ρ).bind fun d => match d with
  | .dict kvs => (b ρ).bind fun k => (c ρ).bind fun x => (match keyK k with
    | some κ => if allK kvs = true then .ok ((fndG keyK κ kvs).getD x) else .bad
    | none => .bad)
  | _ => .bad := Eq.symm (Eq.symm rfl)
@[simp] theorem cPrs_nil : cPrs [] ρ = .ok [] := Eq.symm (Eq.symm rfl)
@[simp] theorem cPrs_cons (q : CE × CE) (r : List (CE × CE)) : cPrs (q :: r) ρ = (q.1 ρ).bind fun k => (q.2 ρ).bind fun d => (cPrs r ρ).bind fun ps => .ok ((k, d) :: ps) := Eq.symm (Eq.symm rfl)
@[simp] theorem cDisp_ap (cs : List (CE × CE)) : cDisp cs ρ = (cPrs cs ρ).bind fun ps => if allK ps = true ∧ ps.length ≤ 15 then .ok (.dict (ps.foldl putK1 [])) else .bad := Eq.symm (Eq.symm rfl)
@[simp] theorem sSeq_ap (a b : CS) : sSeq a b ρ = (match a ρ with | .nx ρ' => b ρ' | r => r) := Eq.symm (Eq.symm rfl)
@[simp] theorem sIf_ap (t : CT) (a b : CS) : sIf t a b ρ = (match t ρ with | .ok true => a ρ | .ok false => b ρ | .exc n ds => .exc n ds ρ | .bad => .bad) := Eq.symm (Eq.symm rfl)
@[simp] theorem sFor_ap (ci : CI) (g : Tg) (b : CS) : sFor ci g b ρ = (match ci ρ with | .ok ds => forL g b ds ρ | .exc n ds => .exc n ds ρ | .bad => .bad) := Eq.symm (Eq.symm rfl)
@[simp] theorem sNx_ap : sNx ρ = .nx ρ := Eq.symm (Eq.symm rfl)
@[simp] theorem sBk_ap : sBk ρ = .bk ρ := Eq.symm (Eq.symm rfl)
@[simp] theorem sCt_ap : sCt ρ = .ct ρ := Eq.symm (Eq.symm rfl)
@[simp] theorem sRetN_ap : sRetN ρ = .rt .none := Eq.symm (Eq.symm rfl)
@[simp] theorem sRaise_ap (G : GI) (x : Str) (cs : List CE) : sRaise G x cs ρ = (match cAll cs ρ with
  | .ok ds => if G.flds x = [] then .exc x [] ρ else if ds.length = (G.flds x).length then .exc x ds.reverse ρ else .bad
  | .exc n ds => .exc n ds ρ
  | .bad => .bad) := Eq.symm (Eq.symm rfl)
@[simp] theorem sTry_ap (G : GI) (b : CS) (hs : List HdC) : sTry G b hs ρ = (match b ρ with | .exc n ds ρ' => tryH G hs n ds ρ' | r => r) := Eq.symm (Eq.symm rfl)
@[simp] theorem cIsE_ap (G : GI) (i : Nat) (ts : List Str) : cIsE G i ts ρ = (match ρ[i]? with | some (.exn n _) => if G.has n = true then .ok (.bool (ts.any fun t => decide (t ∈ G.ups n))) else .bad | _ => .bad) := Eq.symm (Eq.symm rfl)
@[simp] theorem cFld_ap (G : GI) (i : Nat) (f : Str) : cFld G i f ρ = (match ρ[i]? with
  | some (.exn n ds) => if G.has n = true ∧ f ∈ G.flds n then (match ((G.flds n).zip ds).lookup f with | some d => .ok d | none => .bad) else .bad
  | _ => .bad) := Eq.symm (Eq.symm rfl)
end
@[simp] theorem quiet_ok {α : Type} (d : α) : quiet (R.ok d) = .ok d := rfl
@[simp] theorem quiet_bad {α : Type} : quiet (R.bad : R α) = .bad := rfl
@[simp] theorem forL_nil (g : Tg) (b : CS) (ρ : En) : forL g b [] ρ = .nx ρ := Eq.symm (Eq.symm rfl)
@[simp] theorem forL_cons (g : Tg) (b : CS) (d : PyData) (ds : List PyData) (ρ : En) : forL g b (d :: ds) ρ = (match tgSet g d ρ with
    | .ok ρ1 => (match b ρ1 with
      | .nx ρ' => forL g b ds ρ'
      | .ct ρ' => forL g b ds ρ'
      | .bk ρ' => .nx ρ'
      | r => r)
    | _ => .bad) := Eq.symm (Eq.symm rfl)
end Pv


namespace Pv
open PySem PySem.Spec L2
open PyProof.Rows hiding St
/-! comprehensions and loops over a list of known form -/
theorem compL_on {α : Type} (m : α → PyData) (p : α → Bool) (f : α → PyData) {i : Nat} {t : CT} {e : CE} {ρ : En} {l : List α} (h : ∀ a ∈ l, t (ρ.set i (.dat (m a) false)) = .ok (p a) ∧ (p a = true → e (ρ.set i (.dat (m a) false)) = .ok (f a))) : compL (.one i) t e ρ (l.map m) = .ok ((l.filter p).map f) := by
  induction l with
  | nil => rfl
  | cons a l ih =>
    have ih := ih fun b hb => h b (List.mem_cons_of_mem _ hb)
    obtain ⟨h2, h3⟩ := h a List.mem_cons_self
    show ((tgSet (.one i) (m a) ρ).bind fun ρ' => (t ρ').bind fun b => if b = true then (e ρ').bind fun y => (compL (.one i) t e ρ (l.map m)).bind fun ys => .ok (y :: ys) else compL (.one i) t e ρ (l.map m)) = _
    show ((t (ρ.set i (.dat (m a) false))).bind fun b => if b = true then (e (ρ.set i (.dat (m a) false))).bind fun y => (compL (.one i) t e ρ (l.map m)).bind fun ys => .ok (y :: ys) else compL (.one i) t e ρ (l.map m)) = _
    rw [h2, R.bind_ok]
    cases hp : p a with
    | true => rw [if_pos rfl, h3 hp, R.bind_ok, ih, R.bind_ok, List.filter_cons, hp, if_pos rfl, List.map_cons]
    | false => rw [if_neg (by simp), ih, List.filter_cons, hp, if_neg (by simp)]
theorem compL_on_all {α : Type} (m : α → PyData) (f : α → PyData) {i : Nat} {e : CE} {ρ : En} {l : List α} (h : ∀ a ∈ l, e (ρ.set i (.dat (m a) false)) = .ok (f a)) : compL (.one i) tYesC e ρ (l.map m) = .ok (l.map f) := by
  rw [compL_on m (fun _ => true) f fun a ha => ⟨rfl, fun _ => h a ha⟩, List.filter_eq_self.mpr (fun _ _ => rfl)]
/-- a loop with an invariant over what is done -/
theorem forL_inv {α : Type} (m : α → PyData) (I : List α → En → Prop) {i : Nat} {b : CS} (l : List α) (h : ∀ done a rest ρ, l = done ++ a :: rest → I done ρ → ∃ ρ', (b (ρ.set i (.dat (m a) false)) = .nx ρ' ∨ b (ρ.set i (.dat (m a) false)) = .ct ρ') ∧ I (done ++ [a]) ρ') {ρ : En} (h0 : I [] ρ) : ∃ ρ', forL (.one i) b (l.map m) ρ = .nx ρ' ∧ I l ρ' := by
  have go : ∀ (rest done : List α) (ρ : En), l = done ++ rest → I done ρ → ∃ ρ', forL (.one i) b (rest.map m) ρ = .nx ρ' ∧ I l ρ' := by
    intro rest
    induction rest with
    | nil => intro done ρ e hI; exact ⟨ρ, rfl, by rw [e, List.append_nil]; exact hI⟩
    | cons a rest ih =>
      intro done ρ e hI
      obtain ⟨ρ', hb, hI'⟩ := h done a rest ρ e hI
      obtain ⟨ρ2, h1, h2⟩ := ih (done ++ [a]) ρ' (by rw [e]; simp) hI'
      refine ⟨ρ2, ?_, h2⟩
      rw [List.map_cons, forL_cons]
      show (match b (ρ.set i (.dat (m a) false)) with | .nx ρ' => forL (.one i) b (rest.map m) ρ' | .ct ρ' => forL (.one i) b (rest.map m) ρ' | .bk ρ' => .nx ρ' | r => r) = _
      rcases hb with hb | hb <;> rw [hb] <;> exact h1
  exact go l [] ρ rfl h0
/-- a loop that leaves the rest as it is -/
theorem forL_same {α : Type} (m : α → PyData) (S : Sl → En) {i : Nat} {b : CS} (l : List α) (hS : ∀ x y, (S x).set i y = S y) (h : ∀ a ∈ l, b (S (.dat (m a) false)) = .nx (S (.dat (m a) false))) (x : Sl) : ∃ y, forL (.one i) b (l.map m) (S x) = .nx (S y) := by
  obtain ⟨ρ', h1, y, h2⟩ := forL_inv m (fun _ ρ => ∃ y, ρ = S y) (i := i) (b := b) l (by
    rintro done a rest ρ e ⟨y, rfl⟩
    refine ⟨S (.dat (m a) false), .inl ?_, _, rfl⟩
    rw [hS]; exact h a (by rw [e]; simp)) (ρ := S x) ⟨x, rfl⟩
  exact ⟨y, h2 ▸ h1⟩
/-! ranges, slices -/
def natD (k : Nat) : PyData := .int k
theorem rangeL_nat (n : Nat) : rangeL 0 (n : Int) = (List.range n).map natD := by
  unfold rangeL
  simp [natD]
theorem intB_nat {n : Nat} (hn : n ≤ 16000000) : intB (.int (n : Int)) = .ok (n : Int) := by
  unfold intB
  exact if_pos (by omega)
theorem cRange1_nat {a : CE} {ρ : En} {n : Nat} (h : a ρ = .ok (.int n)) (hn : n ≤ 16000000) : cRange1 a ρ = .ok ((List.range n).map natD) := by
  rw [cRange1_ap, h, R.bind_ok]
  have e : intB (.int (n : Int)) = .ok (n : Int) := intB_nat hn
  rw [e]
  show (if (n : Int) ≤ 16000000 then R.ok (rangeL 0 n) else .bad) = _
  rw [if_pos (by omega), rangeL_nat]
theorem cRange2_nat {a b : CE} {ρ : En} {n m : Nat} (h : a ρ = .ok (.int n)) (h2 : b ρ = .ok (.int m)) (hn : n ≤ 16000000) (hm : m ≤ 16000000) : cRange2 a b ρ = .ok (rangeL n m) := by
  rw [cRange2_ap, h, R.bind_ok, h2, R.bind_ok, intB_nat hn, intB_nat hm]
  show (if (m : Int) - (n : Int) ≤ 16000000 then R.ok (rangeL n m) else .bad) = _
  rw [if_pos (by omega)]
theorem cutD_to (ds : List PyData) (n : Nat) : cutD ds none (some (n : Int)) = ds.take n := by
  unfold cutD
  rw [HT.sIx_nat, HT.sIx_none]
  simp [Nat.min_comm]
theorem cutD_from (ds : List PyData) (n : Nat) : cutD ds (some (n : Int)) none = ds.drop n := by
  unfold cutD
  rw [HT.sIx_nat, HT.sIx_none]
  by_cases h : n ≤ ds.length
  · rw [Nat.min_eq_left h]
    exact List.take_of_length_le (by simp)
  · rw [Nat.min_eq_right (by omega)]
    simp
    omega
theorem cutD_last (ds : List PyData) (n : Nat) (hn : 0 < n) (h : n ≤ ds.length) : cutD ds (some (-(n : Int))) none = ds.drop (ds.length - n) := by
  unfold cutD
  rw [HT.sIx_none]
  have e : HT.sIx ds.length 0 (some (-(n : Int))) = ds.length - n := by
    unfold HT.sIx
    simp only
    rw [if_pos (by omega)]
    omega
  rw [e]
  exact List.take_of_length_le (by simp)
theorem addT (a b : List PyData) (h : a.length + b.length ≤ sizeLine) : addD (.tuple a) (.tuple b) = .ok (.tuple (a ++ b)) := if_pos h
theorem addL (a b : List PyData) (h : a.length + b.length ≤ sizeLine) : addD (.list a) (.list b) = .ok (.list (a ++ b)) := if_pos h
theorem memD_int (n : Int) (l : List Int) : memD (.int n) (l.map .int) = decide (n ∈ l) := by
  unfold memD
  induction l with
  | nil => rfl
  | cons a l ih =>
    rw [List.map_cons, List.any_cons, ih]
    simp only [PyData.eqv, List.mem_cons]
    by_cases h : a = n
    · simp [h]
    · have : ¬ n = a := fun e => h e.symm
      simp [h, this]
theorem inB_seq {d : PyData} {ds : List PyData} (h : d.depth ≤ 60) (h2 : noDic d = true) (nd : noDics ds = true) : inB d (.tuple ds) = .ok (memD d ds) ∧ inB d (.list ds) = .ok (memD d ds) := ⟨if_pos ⟨⟨h, h2⟩, nd⟩, if_pos ⟨⟨h, h2⟩, nd⟩⟩
theorem inD_seq {d : PyData} {ds : List PyData} (h : d.depth ≤ 60) (h2 : noDic d = true) (nd : noDics ds = true) : inD d (.tuple ds) = .ok (.bool (memD d ds)) ∧ inD d (.list ds) = .ok (.bool (memD d ds)) := by
  obtain ⟨e1, e2⟩ := inB_seq h h2 nd
  unfold inD
  rw [e1, e2]
  exact ⟨rfl, rfl⟩
theorem notInD_seq {d : PyData} {ds : List PyData} (h : d.depth ≤ 60) (h2 : noDic d = true) (nd : noDics ds = true) : notInD d (.tuple ds) = .ok (.bool (!memD d ds)) ∧ notInD d (.list ds) = .ok (.bool (!memD d ds)) := by
  obtain ⟨e1, e2⟩ := inB_seq h h2 nd
  unfold notInD
  rw [e1, e2]
  exact ⟨rfl, rfl⟩
theorem notInD_int (n : Int) (l : List Int) : notInD (.int n) (.tuple (l.map .int)) = .ok (.bool (!decide (n ∈ l))) := by
  rw [(notInD_seq (by simp [PyData.depth]) rfl (noDics_ints l)).1, memD_int]
theorem notInD_int_l (n : Int) (l : List Int) : notInD (.int n) (.list (l.map .int)) = .ok (.bool (!decide (n ∈ l))) := by
  rw [(notInD_seq (by simp [PyData.depth]) rfl (noDics_ints l)).2, memD_int]
theorem inD_int (n : Int) (l : List Int) : inD (.int n) (.tuple (l.map .int)) = .ok (.bool (decide (n ∈ l))) := by
  rw [(inD_seq (by simp [PyData.depth]) rfl (noDics_ints l)).1, memD_int]
theorem inD_int_l (n : Int) (l : List Int) : inD (.int n) (.list (l.map .int)) = .ok (.bool (decide (n ∈ l))) := by
  rw [(inD_seq (by simp [PyData.depth]) rfl (noDics_ints l)).2, memD_int]
theorem indexD_int (n : Int) (l : List Int) (h : n ∈ l) : indexD (.list (l.map .int)) (.int n) = .ok (.int (l.idxOf n : Nat)) := by
  show (if ((PyData.int n).depth ≤ 60 ∧ noDic (.int n) = true) ∧ noDics (l.map .int) = true then _ else R.bad) = _
  have e : (l.map PyData.int).findIdx? (fun z => PyData.eqv z (.int n)) = some (l.idxOf n) := by
    rw [List.findIdx?_map, List.idxOf]
    rw [List.findIdx?_eq_some_iff_findIdx_eq]
    have e2 : ((fun z => PyData.eqv z (.int n)) ∘ PyData.int) = fun x => x == n := rfl
    rw [e2]
    exact ⟨List.findIdx_lt_length_of_exists ⟨n, h, by simp⟩, rfl⟩
  rw [e]
  exact if_pos ⟨⟨by simp [PyData.depth], rfl⟩, noDics_ints l⟩
/-! strictly ascending numbers -/
abbrev SAsc (l : List Int) : Prop := l.Pairwise (· < ·)
theorem sortD_asc (l : List Int) (h : SAsc l) : sortD (.list (l.map .int)) = .ok (.list (l.map .int)) := by
  have h1 : alikeB (l.map PyData.int) = true := by
    unfold alikeB
    simp [PySem.W.alike]
  have h2 : sortB (l.map PyData.int) = true := by
    unfold sortB
    simp
  have h3 : (l.map PyData.int).all (fun d => decide (d.depth ≤ 60)) = true := by simp [PyData.depth]
  show (if _ then R.ok (PyData.list (sortedL (l.map .int))) else .bad) = _
  rw [if_pos ⟨noDics_ints l, h1, h2, h3⟩]
  have : sortedL (l.map PyData.int) = l.map .int := by
    unfold sortedL
    apply List.mergeSort_of_pairwise
    rw [List.pairwise_map]
    refine h.imp fun {a b} hab => ?_
    have hd := PySem.W.dataLt_int b a
    have : PySem.W.dataLe false (fun d => d) (PyData.int a) (PyData.int b) = !PySem.W.dataLt (.int b) (.int a) := by
      rfl
    rw [this, hd]
    simp
    omega
  rw [this]
end Pv


/-! the makers' rules, for simp everywhere -/
namespace Pv
open PySem PySem.Spec L2
open PyProof.Rows hiding St
section
variable (ρ : En)
@[simp] theorem runC_s (c : CS) (N ps : List Str) (ds : List PyData) : runC c N ps ds = if ds.length = ps.length then endC (c (startE N ds)) else .bad := Eq.symm (Eq.symm rfl)
@[simp] theorem endC_rt (d : PyData) : endC (.rt d) = .ok d := Eq.symm (Eq.symm rfl)
@[simp] theorem endC_nx : endC (.nx ρ) = .ok .none := Eq.symm (Eq.symm rfl)
@[simp] theorem endC_exc (n : Str) (es : List PyData) : endC (.exc n es ρ) = .exc n es := Eq.symm (Eq.symm rfl)
@[simp] theorem endC_bad : endC .bad = .bad := Eq.symm (Eq.symm rfl)
@[simp] theorem startE_s (N : List Str) (ds : List PyData) : startE N ds = ds.map (fun d => .dat d false) ++ List.replicate (N.length - ds.length) .no := Eq.symm (Eq.symm rfl)
@[simp] theorem disL_nil : disL [] ρ = ρ := Eq.symm (Eq.symm rfl)
@[simp] theorem disL_cons (i : Nat) (is : List Nat) : disL (i :: is) ρ = disL is (disE i ρ) := Eq.symm (Eq.symm rfl)
@[simp] theorem disE_s (i : Nat) : disE i ρ = (match ρ[i]? with | some (.dat d true) => ρ.set i (.dat d false) | _ => ρ) := Eq.symm (Eq.symm rfl)
@[simp] theorem isB_bool (b : Bool) : isB (.bool b) = .ok b := Eq.symm (Eq.symm rfl)
@[simp] theorem isL_list (ds : List PyData) : isL (.list ds) = true := Eq.symm (Eq.symm rfl)
@[simp] theorem isL_dict (ds) : isL (.dict ds) = true := Eq.symm (Eq.symm rfl)
@[simp] theorem isL_tuple (ds : List PyData) : isL (.tuple ds) = false := Eq.symm (Eq.symm rfl)
@[simp] theorem isL_int (i : Int) : isL (.int i) = false := Eq.symm (Eq.symm rfl)
@[simp] theorem isL_str (i : Str) : isL (.str i) = false := Eq.symm (Eq.symm rfl)
@[simp] theorem isL_bool (i : Bool) : isL (.bool i) = false := Eq.symm (Eq.symm rfl)
@[simp] theorem isL_none : isL .none = false := Eq.symm (Eq.symm rfl)
@[simp] theorem isiD_s (ts : List String) (d : PyData) : isiD ts d = .ok (.bool (ts.any fun t => (tyD d == t) || (t == "int" && tyD d == "bool"))) := Eq.symm (Eq.symm rfl)
@[simp] theorem tyD_none : tyD .none = "NoneType" := Eq.symm (Eq.symm rfl)
@[simp] theorem tyD_bool (b : Bool) : tyD (.bool b) = "bool" := Eq.symm (Eq.symm rfl)
@[simp] theorem tyD_int (b : Int) : tyD (.int b) = "int" := Eq.symm (Eq.symm rfl)
@[simp] theorem tyD_str (b : Str) : tyD (.str b) = "str" := Eq.symm (Eq.symm rfl)
@[simp] theorem tyD_list (b : List PyData) : tyD (.list b) = "list" := Eq.symm (Eq.symm rfl)
@[simp] theorem tyD_tuple (b : List PyData) : tyD (.tuple b) = "tuple" := Eq.symm (Eq.symm rfl)
@[simp] theorem tyD_dict (b) : tyD (.dict b) = "dict" := Eq.symm (Eq.symm rfl)
@[simp] theorem ownAt_s (i : Nat) : ownAt ρ i = (match ρ[i]? with | some (.dat _ true) => true | _ => false) := Eq.symm (Eq.symm rfl)
@[simp] theorem ownAny_nil : ownAny [] ρ = false := Eq.symm (Eq.symm rfl)
@[simp] theorem ownAny_none (r : List (Option Nat)) : ownAny (none :: r) ρ = ownAny r ρ := by unfold ownAny; rw [List.any_cons]; rfl
@[simp] theorem ownAny_some (i : Nat) (r : List (Option Nat)) : ownAny (some i :: r) ρ = (ownAt ρ i || ownAny r ρ) := by unfold ownAny; rw [List.any_cons]
@[simp] theorem guardF_no (r : R PyData) : guardF false r = r := by cases r <;> rfl
@[simp] theorem guardF_ok (d : PyData) : guardF true (.ok d) = if flat d = true then .ok d else .bad := Eq.symm (Eq.symm rfl)
@[simp] theorem guardF_exc (n : Str) (es : List PyData) : guardF true (.exc n es) = if flat.flats es = true then .exc n es else .bad := Eq.symm (Eq.symm rfl)
@[simp] theorem guardF_bad : guardF true (.bad) = .bad := Eq.symm (Eq.symm rfl)
@[simp] theorem setAll_nil : setAll [] [] ρ = some ρ := Eq.symm (Eq.symm rfl)
@[simp] theorem setAll_cons (i : Nat) (is : List Nat) (d : PyData) (ds : List PyData) : setAll (i :: is) (d :: ds) ρ = setAll is ds (ρ.set i (.dat d false)) := Eq.symm (Eq.symm rfl)
@[simp] theorem tgSet_one (i : Nat) (d : PyData) : tgSet (.one i) d ρ = .ok (ρ.set i (.dat d false)) := Eq.symm (Eq.symm rfl)
@[simp] theorem tgSet_tup (is : List Nat) (ds : List PyData) : tgSet (.tup is) (.tuple ds) ρ = (match setAll is ds ρ with | some ρ' => .ok ρ' | none => .bad) := Eq.symm (Eq.symm rfl)
@[simp] theorem wipeE_nil : wipeE ρ [] = ρ := Eq.symm (Eq.symm rfl)
@[simp] theorem wipeE_cons (v : Nat) (vs : List Nat) : wipeE ρ (v :: vs) = (wipeE ρ vs).set v .no := Eq.symm (Eq.symm rfl)
end
@[simp] theorem itD_list (ds : List PyData) : itD (.list ds) = .ok ds := Eq.symm (Eq.symm rfl)
@[simp] theorem itD_tuple (ds : List PyData) : itD (.tuple ds) = .ok ds := Eq.symm (Eq.symm rfl)
@[simp] theorem lenD_list (ds : List PyData) : lenD (.list ds) = .ok (.int ds.length) := Eq.symm (Eq.symm rfl)
@[simp] theorem lenD_tuple (ds : List PyData) : lenD (.tuple ds) = .ok (.int ds.length) := Eq.symm (Eq.symm rfl)
@[simp] theorem lenD_str (z : Str) : lenD (.str z) = if z.length ≤ sizeLine then .ok (.int z.length) else .bad := Eq.symm (Eq.symm rfl)
@[simp] theorem listD_list (ds : List PyData) : listD (.list ds) = .ok (.list ds) := Eq.symm (Eq.symm rfl)
@[simp] theorem listD_tuple (ds : List PyData) : listD (.tuple ds) = .ok (.list ds) := Eq.symm (Eq.symm rfl)
@[simp] theorem lenD_dict (kvs) : lenD (.dict kvs) = if allK kvs = true then .ok (.int kvs.length) else .bad := Eq.symm (Eq.symm rfl)
@[simp] theorem listC_list (ds : List PyData) : listC (.list ds) = .ok (.list ds) := Eq.symm (Eq.symm rfl)
@[simp] theorem listC_tuple (ds : List PyData) : listC (.tuple ds) = .ok (.list ds) := Eq.symm (Eq.symm rfl)
@[simp] theorem listC_dict (kvs) : listC (.dict kvs) = if allK kvs = true then .ok (.list (kvs.map (·.1))) else .bad := Eq.symm (Eq.symm rfl)
@[simp] theorem keyK_int (i : Int) : keyK (.int i) = some (.inl i) := Eq.symm (Eq.symm rfl)
@[simp] theorem keyK_str (i : Str) : keyK (.str i) = some (.inr i) := Eq.symm (Eq.symm rfl)
@[simp] theorem keyK_tuple (i : List PyData) : keyK (.tuple i) = none := Eq.symm (Eq.symm rfl)
@[simp] theorem kD_inl (i : Int) : kD (.inl i) = .int i := Eq.symm (Eq.symm rfl)
@[simp] theorem kD_inr (i : Str) : kD (.inr i) = .str i := Eq.symm (Eq.symm rfl)
@[simp] theorem isNoneD_dict (i) : isNoneD (.dict i) = false := Eq.symm (Eq.symm rfl)
@[simp] theorem flat_dict (i) : flat (.dict i) = false := Eq.symm (Eq.symm rfl)
@[simp] theorem tupleD_list (ds : List PyData) : tupleD (.list ds) = .ok (.tuple ds) := Eq.symm (Eq.symm rfl)
@[simp] theorem tupleD_tuple (ds : List PyData) : tupleD (.tuple ds) = .ok (.tuple ds) := Eq.symm (Eq.symm rfl)
@[simp] theorem intD_int (i : Int) : intD (.int i) = .ok (.int i) := Eq.symm (Eq.symm rfl)
@[simp] theorem intD_bool (b : Bool) : intD (.bool b) = .ok (.int (if b = true then 1 else 0)) := Eq.symm (Eq.symm rfl)
@[simp] theorem negD_int (i : Int) : negD (.int i) = .ok (.int (-i)) := Eq.symm (Eq.symm rfl)
@[simp] theorem revD_list (ds : List PyData) : revD (.list ds) = .ok (.list ds.reverse) := Eq.symm (Eq.symm rfl)
@[simp] theorem revD_tuple (ds : List PyData) : revD (.tuple ds) = .ok (.tuple ds.reverse) := Eq.symm (Eq.symm rfl)
@[simp] theorem slD_list (ds : List PyData) (lo hi : Option Int) : slD (.list ds) lo hi = .ok (.list (cutD ds lo hi)) := Eq.symm (Eq.symm rfl)
@[simp] theorem slD_tuple (ds : List PyData) (lo hi : Option Int) : slD (.tuple ds) lo hi = .ok (.tuple (cutD ds lo hi)) := Eq.symm (Eq.symm rfl)
@[simp] theorem flat_none : flat .none = true := Eq.symm (Eq.symm rfl)
@[simp] theorem flat_bool (b : Bool) : flat (.bool b) = true := Eq.symm (Eq.symm rfl)
@[simp] theorem flat_int (b : Int) : flat (.int b) = true := Eq.symm (Eq.symm rfl)
@[simp] theorem flat_str (b : Str) : flat (.str b) = true := Eq.symm (Eq.symm rfl)
@[simp] theorem flat_list (b : List PyData) : flat (.list b) = false := Eq.symm (Eq.symm rfl)
@[simp] theorem flat_tuple (b : List PyData) : flat (.tuple b) = flat.flats b := Eq.symm (Eq.symm rfl)
@[simp] theorem flats_nil : flat.flats [] = true := Eq.symm (Eq.symm rfl)
@[simp] theorem flats_cons (d : PyData) (ds : List PyData) : flat.flats (d :: ds) = (flat d && flat.flats ds) := Eq.symm (Eq.symm rfl)
@[simp] theorem isNoneD_none : isNoneD .none = true := Eq.symm (Eq.symm rfl)
@[simp] theorem isNoneD_int (i : Int) : isNoneD (.int i) = false := Eq.symm (Eq.symm rfl)
@[simp] theorem isNoneD_bool (i : Bool) : isNoneD (.bool i) = false := Eq.symm (Eq.symm rfl)
@[simp] theorem isNoneD_str (i : Str) : isNoneD (.str i) = false := Eq.symm (Eq.symm rfl)
@[simp] theorem isNoneD_tuple (i : List PyData) : isNoneD (.tuple i) = false := Eq.symm (Eq.symm rfl)
@[simp] theorem isNoneD_list (i : List PyData) : isNoneD (.list i) = false := Eq.symm (Eq.symm rfl)
theorem modD_int (i : Int) {j : Int} (h : 0 < j) : modD (.int i) (.int j) = .ok (.int (i % j)) := by
  unfold modD
  exact if_pos h
theorem fdivD_int (i : Int) {j : Int} (h : 0 < j) (hj : j.natAbs.log2 < 9000) : fdivD (.int i) (.int j) = .ok (.int (i / j)) := by
  unfold fdivD
  exact if_pos ⟨h, hj⟩
theorem mulD_intl (i j : Int) (h : i.natAbs < 2 ^ 64) : mulD (.int i) (.int j) = .ok (.int (i * j)) := by
  unfold mulD
  exact if_pos (.inl (.inl h))
theorem mulD_intr (i j : Int) (h : j.natAbs < 2 ^ 64) : mulD (.int i) (.int j) = .ok (.int (i * j)) := by
  unfold mulD
  exact if_pos (.inl (.inr h))
theorem mulI_intl (i j : Int) (h : i.natAbs < 2 ^ 64) : mulI (.int i) (.int j) = .ok (.int (i * j)) := by
  unfold mulI
  exact mulD_intl i j h
theorem mulI_intr (i j : Int) (h : j.natAbs < 2 ^ 64) : mulI (.int i) (.int j) = .ok (.int (i * j)) := by
  unfold mulI
  exact mulD_intr i j h
theorem log2_small {j : Nat} (h : j < 2 ^ 64) : j.log2 < 9000 := by
  by_cases h0 : j = 0
  · subst h0; simp
  · exact Nat.lt_of_lt_of_le ((Nat.log2_lt h0).mpr h) (by decide)
end Pv


/-! steps, ranges, letters, draws: for every law -/
namespace Pv
open PySem PySem.Spec L2
open PyProof.Rows hiding St
theorem mul_rep (x : PyData) (n : Nat) (h : n ≤ 1000) : mulD (.list [x]) (.int n) = .ok (.list (List.replicate n x)) := by
  have z1 : (n : Int).natAbs < 2 ^ 63 := by omega
  have z3 : [x].length * (n : Int).toNat ≤ sizeLine := by
    have : sizeLine = 16777216 := rfl
    simp; omega
  simp only [mulD, z1, z3, and_self, if_true]
  simp
theorem seq_nx {a b : CS} {ρ ρ' : En} (h : a ρ = .nx ρ') : sSeq a b ρ = b ρ' := by
  rw [sSeq_ap, h]
theorem seq_rt {a b : CS} {ρ : En} {d : PyData} (h : a ρ = .rt d) : sSeq a b ρ = .rt d := by
  rw [sSeq_ap, h]
theorem seq_exc {a b : CS} {ρ ρ' : En} {n : Str} {es : List PyData} (h : a ρ = .exc n es ρ') : sSeq a b ρ = .exc n es ρ' := by
  rw [sSeq_ap, h]
theorem for_of {ci : CI} {g : Tg} {b : CS} {ρ : En} {ds : List PyData} (h1 : ci ρ = .ok ds) : sFor ci g b ρ = forL g b ds ρ := by
  rw [sFor_ap, h1]
theorem for_nx {ci : CI} {g : Tg} {b : CS} {ρ ρ' : En} {ds : List PyData} (h1 : ci ρ = .ok ds) (h2 : forL g b ds ρ = .nx ρ') : sFor ci g b ρ = .nx ρ' := by
  rw [sFor_ap, h1]
  exact h2
theorem for_nx0 {ci : CI} {g : Tg} {b : CS} {ρ ρ' : En} {ds : List PyData} (h1 : ci ρ = .ok ds) (h2 : forL g b ds ρ = .nx ρ') : disow [] (sFor ci g b) ρ = .nx ρ' := by
  rw [disow_ap]
  exact for_nx h1 h2
theorem run_of {c : CS} {N ps : List Str} {ds : List PyData} {ρ : En} (h : ds.length = ps.length) (hs : startE N ds = ρ) : runC c N ps ds = endC (c ρ) := by
  subst hs
  exact if_pos h
theorem end_rt (d : PyData) : endC (.rt d) = .ok d := rfl
theorem set_ok {i : Nat} {fr : Bool} {c : CE} {ρ : En} {d : PyData} (h : c ρ = .ok d) : sSet i fr c ρ = .nx (ρ.set i (.dat d (fr && isL d))) := by
  rw [sSet_ap, h]
theorem range_at {n : Nat} {done rest : List Nat} {a : Nat} (e : List.range n = done ++ a :: rest) : done.length < n ∧ a = done.length := by
  have h1 : (List.range n)[done.length]? = some a := by rw [e]; simp
  obtain ⟨h3, h4⟩ := List.getElem?_eq_some_iff.mp h1
  simp at h3 h4
  exact ⟨h3, h4.symm⟩
def upTo (n : Nat) : List Int := (List.range n).map Int.ofNat
theorem natD_upTo (n : Nat) : (List.range n).map natD = (upTo n).map .int := by
  unfold upTo natD
  rw [List.map_map]; rfl
theorem compL_ex {α β : Type} (m : α → PyData) (enc : β → PyData) (Q : β → Prop) {i : Nat} {e : CE} {ρ : En} {l : List α} (h : ∀ a ∈ l, ∃ b, Q b ∧ e (ρ.set i (.dat (m a) false)) = .ok (enc b)) : ∃ bs : List β, compL (.one i) tYesC e ρ (l.map m) = .ok (bs.map enc) ∧ bs.length = l.length ∧ ∀ b ∈ bs, Q b := by
  induction l with
  | nil => exact ⟨[], rfl, rfl, by simp⟩
  | cons a l ih =>
    obtain ⟨bs, h1, h2, h3⟩ := ih fun b hb => h b (List.mem_cons_of_mem _ hb)
    obtain ⟨b, q, g⟩ := h a List.mem_cons_self
    refine ⟨b :: bs, ?_, by simp [h2], ?_⟩
    · show ((tgSet (.one i) (m a) ρ).bind fun ρ' => (tYesC ρ').bind fun b => if b = true then (e ρ').bind fun y => (compL (.one i) tYesC e ρ (l.map m)).bind fun ys => .ok (y :: ys) else compL (.one i) tYesC e ρ (l.map m)) = _
      rw [tgSet_one, R.bind_ok]
      show ((R.ok true).bind fun b => _) = _
      rw [R.bind_ok, if_pos rfl, g, R.bind_ok, h1, R.bind_ok]
      rfl
    · intro x hx
      rcases List.mem_cons.mp hx with rfl | hx
      · exact q
      · exact h3 x hx
/-! letters -/
def alph : Str := "abcdefghijklmnopqrstuvwxyz"
theorem alph_cps : alph.cps.toList = (List.range 26).map (· + 97) := by decide +kernel
theorem atI_mem {α : Type} {ds : List α} {i : Nat} (h : i < ds.length) : atI ds (i : Int) = some ds[i] := atI_nat (List.getElem?_eq_getElem h)
def Let (c : Nat) : Prop := 97 ≤ c ∧ c < 123
instance (c : Nat) : Decidable (Let c) := inferInstanceAs (Decidable (_ ∧ _))
theorem alph_ix (i : Int) (h : 0 ≤ i ∧ i < 26) : ∃ c, Let c ∧ ixD (.str alph) (.int i) = .ok (.str ⟨#[c]⟩) := by
  obtain ⟨n, rfl⟩ := Int.eq_ofNat_of_zero_le h.1
  have hn : n < 26 := by omega
  refine ⟨n + 97, ⟨by omega, by omega⟩, ?_⟩
  have e : atI alph.cps.toList (n : Int) = some (n + 97) := by
    rw [alph_cps]
    exact atI_nat (by simp [hn])
  show (if alph.length ≤ sizeLine then (match atI alph.cps.toList (n : Int) with | some c => R.ok (PyData.str ⟨#[c]⟩) | none => .bad) else .bad) = _
  rw [e]
  exact if_pos (by decide +kernel)
/-- letters, 1 to 8 -/
def Nm (p : Str) : Prop := 1 ≤ p.cps.toList.length ∧ p.cps.toList.length ≤ 8 ∧ ∀ c ∈ p.cps.toList, Let c
def nmB (p : Str) : Bool := decide (1 ≤ p.cps.toList.length) && (decide (p.cps.toList.length ≤ 8) && p.cps.toList.all fun c => decide (Let c))
theorem nmB_iff (p : Str) : nmB p = true ↔ Nm p := by
  unfold nmB Nm
  simp only [Bool.and_eq_true, decide_eq_true_iff, List.all_eq_true]
theorem notIn_alph (c : Nat) : notInD (.str ⟨#[c]⟩) (.str alph) = .ok (.bool (!decide (Let c))) := by
  show (inB (.str ⟨#[c]⟩) (.str alph)).bind _ = _
  have e : inB (.str ⟨#[c]⟩) (.str alph) = .ok (decide (Let c)) := by
    show R.ok (decide (c ∈ alph.cps.toList)) = _
    rw [alph_cps]
    congr 1
    apply decide_eq_decide.mpr
    unfold Let
    simp
    constructor
    · rintro ⟨a, ha, rfl⟩; omega
    · intro h; exact ⟨c - 97, by omega, by omega⟩
  rw [e]
  rfl
theorem str_add (c : Nat) (p : Str) (h : p.length ≤ 8) : addD (.str ⟨#[c]⟩) (.str p) = .ok (.str (⟨#[c]⟩ ++ p)) := if_pos (by
  have : sizeLine = 16777216 := rfl
  show 1 + p.length ≤ sizeLine
  omega)
/-! drawn numbers below their limits -/
def Dr : List Int → List Int → Prop
  | [], [] => True
  | x :: xs, l :: ls => (0 ≤ x ∧ x < l) ∧ Dr xs ls
  | _, _ => False
theorem Dr.app : ∀ {xs ls : List Int} {x l : Int}, Dr xs ls → 0 ≤ x → x < l → Dr (xs ++ [x]) (ls ++ [l])
  | [], [], x, l, _, h1, h2 => ⟨⟨h1, h2⟩, trivial⟩
  | _ :: _, _ :: _, x, l, h, h1, h2 => ⟨h.1, Dr.app h.2 h1 h2⟩
  | [], _ :: _, _, _, h, _, _ => h.elim
  | _ :: _, [], _, _, h, _, _ => h.elim
theorem Dr.len : ∀ {xs ls : List Int}, Dr xs ls → xs.length = ls.length
  | [], [], _ => rfl
  | _ :: _, _ :: _, h => by simp [Dr.len h.2]
  | [], _ :: _, h => h.elim
  | _ :: _, [], h => h.elim
theorem Dr.at : ∀ {xs ls : List Int} {i : Nat} {l : Int}, Dr xs ls → ls[i]? = some l → ∃ x, xs[i]? = some x ∧ 0 ≤ x ∧ x < l
  | [], [], _, _, _, e => by simp at e
  | x :: xs, l :: ls, 0, m, h, e => by
    simp at e; subst e
    exact ⟨x, rfl, h.1.1, h.1.2⟩
  | x :: xs, l :: ls, i + 1, m, h, e => by
    obtain ⟨y, e1, e2⟩ := Dr.at (i := i) (l := m) h.2 (by simpa using e)
    exact ⟨y, by simpa using e1, e2⟩
  | [], _ :: _, _, _, h, _ => h.elim
  | _ :: _, [], _, _, h, _ => h.elim
/-- numbers of bits or small: what a limit may be -/
def LimOk (ls : List Int) : Prop := ∀ l ∈ ls, 0 < l ∧ l.natAbs.log2 < 9000
/-! data that is equal to itself for the laws -/
def plainD : Nat → PyData → Bool
  | 0, _ => false
  | _ + 1, .none => true
  | _ + 1, .int _ => true
  | _ + 1, .bool _ => true
  | _ + 1, .str _ => true
  | n + 1, .tuple ds => decide (ds.length ≤ 1000) && ds.all (plainD n)
  | n + 1, .list ds => decide (ds.length ≤ 1000) && ds.all (plainD n)
  | _, _ => false
theorem plain_tup {n : Nat} {ds : List PyData} (hl : ds.length ≤ 1000) (h : ∀ d ∈ ds, plainD n d = true) : plainD (n + 1) (.tuple ds) = true := by
  show (decide (ds.length ≤ 1000) && ds.all (plainD n)) = true
  rw [decide_eq_true hl, List.all_eq_true.mpr h]; rfl
theorem plain_lst {n : Nat} {ds : List PyData} (hl : ds.length ≤ 1000) (h : ∀ d ∈ ds, plainD n d = true) : plainD (n + 1) (.list ds) = true := by
  show (decide (ds.length ≤ 1000) && ds.all (plainD n)) = true
  rw [decide_eq_true hl, List.all_eq_true.mpr h]; rfl
theorem plain_mono : ∀ {n : Nat} {d : PyData}, plainD n d = true → plainD (n + 1) d = true
  | 0, _, h => by cases h
  | n + 1, .none, _ => rfl
  | n + 1, .int _, _ => rfl
  | n + 1, .bool _, _ => rfl
  | n + 1, .str _, _ => rfl
  | n + 1, .tuple ds, h => by
    have h : (decide (ds.length ≤ 1000) && ds.all (plainD n)) = true := h
    rw [Bool.and_eq_true, decide_eq_true_iff, List.all_eq_true] at h
    exact plain_tup h.1 fun d hd => plain_mono (h.2 d hd)
  | n + 1, .list ds, h => by
    have h : (decide (ds.length ≤ 1000) && ds.all (plainD n)) = true := h
    rw [Bool.and_eq_true, decide_eq_true_iff, List.all_eq_true] at h
    exact plain_lst h.1 fun d hd => plain_mono (h.2 d hd)
  | n + 1, .dict _, h => by cases h
theorem plain_le {n m : Nat} (hm : n ≤ m) {d : PyData} (h : plainD n d = true) : plainD m d = true := by
  induction m with
  | zero => cases n with
    | zero => exact h
    | succ n => omega
  | succ m ih =>
    by_cases e : n = m + 1
    · subst e; exact h
    · exact plain_mono (ih (by omega))
/-! order of texts -/
def leS (a b : Str) : Bool := decide (a.cps.toList ≤ b.cps.toList)
theorem leS_total (a b : Str) : (leS a b || leS b a) = true := by
  unfold leS
  rcases List.le_total a.cps.toList b.cps.toList with h | h
  · simp [h]
  · simp [h]
theorem leS_trans (a b c : Str) (h1 : leS a b = true) (h2 : leS b c = true) : leS a c = true := by
  unfold leS at *
  rw [decide_eq_true_iff] at *
  exact List.le_trans h1 h2
theorem leS_anti {a b : Str} (h1 : leS a b = true) (h2 : leS b a = true) : a = b := by
  unfold leS at *
  rw [decide_eq_true_iff] at *
  have := List.le_antisymm h1 h2
  obtain ⟨⟨x⟩⟩ := a
  obtain ⟨⟨y⟩⟩ := b
  simpa using this
theorem ltD_str (a b : Str) : ltD (.str a) (.str b) = .ok (.bool (!leS b a)) := by
  have : (decide (a.cps.toList < b.cps.toList)) = !leS b a := by
    unfold leS
    rw [← decide_not]
    congr 1
    rw [List.not_le]
  unfold ltD
  rw [if_pos (by simp [cmpOk, shal, PyData.depth, PySem.W.alike]), PySem.W.dataLt_str, this]
/-- sorted texts -/
def srt (l : List Str) : List Str := l.mergeSort leS
theorem sortD_strs (l : List Str) : sortD (.list (l.map .str)) = .ok (.list ((srt l).map .str)) := by
  have h0 := noDics_strs l
  have h1 : alikeB (l.map PyData.str) = true := by
    unfold alikeB
    simp [PySem.W.alike]
  have h2 : sortB (l.map PyData.str) = true := by
    unfold sortB
    simp
  have h3 : (l.map PyData.str).all (fun d => decide (d.depth ≤ 60)) = true := by simp [PyData.depth]
  show (if _ then R.ok (PyData.list (sortedL (l.map .str))) else .bad) = _
  rw [if_pos ⟨h0, h1, h2, h3⟩]
  have : sortedL (l.map PyData.str) = (srt l).map .str := by
    unfold sortedL srt
    rw [List.map_mergeSort]
    intro a _ b _
    have e : PySem.W.dataLe false (fun d => d) (PyData.str a) (PyData.str b) = !PySem.W.dataLt (.str b) (.str a) := rfl
    rw [e, PySem.W.dataLt_str]
    unfold leS
    rw [← decide_not]
    exact decide_eq_decide.mpr List.not_lt.symm
  rw [this]
end Pv


/-! neighbours that are alike -/
namespace Pv
open PySem PySem.Spec L2
open PyProof.Rows hiding St
theorem ixL_last (ds : List PyData) (x : PyData) : ixD (.list (ds ++ [x])) (.int (-1)) = .ok x := by
  apply ixL
  unfold atI ixN
  rw [if_neg (by decide), if_pos (by simp; omega)]
  have : ((-1 : Int) + ((ds ++ [x]).length : Int)).toNat = ds.length := by simp; omega
  rw [this]
  simp
def dedG (acc : List PyData) : List PyData → List PyData
  | [] => acc
  | x :: r => dedG (if acc.getLast?.any (fun y => PyData.eqv y x) = true then acc else acc ++ [x]) r
def ded (l : List PyData) : List PyData := dedG [] l
theorem dedG_len : ∀ (l acc : List PyData), (dedG acc l).length ≤ acc.length + l.length
  | [], acc => Nat.le_refl _
  | x :: r, acc => by
    unfold dedG
    split
    · have := dedG_len r acc
      simp; omega
    · have := dedG_len r (acc ++ [x])
      simp at this ⊢; omega
theorem dedG_mem : ∀ (l acc : List PyData), ∀ x ∈ dedG acc l, x ∈ acc ∨ x ∈ l
  | [], acc, x, h => .inl h
  | y :: r, acc, x, h => by
    unfold dedG at h
    split at h
    · rcases dedG_mem r acc x h with h | h
      · exact .inl h
      · exact .inr (List.mem_cons_of_mem _ h)
    · rcases dedG_mem r _ x h with h | h
      · rcases List.mem_append.mp h with h | h
        · exact .inl h
        · exact .inr (by rw [List.mem_singleton.mp h]; exact List.mem_cons_self)
      · exact .inr (List.mem_cons_of_mem _ h)
/-- a list filled so -/
theorem ded_loop {b : CS} {s0 : Sl} (hb : ∀ (acc : List PyData) (x : PyData), acc.length < 10000 → (∀ y ∈ acc, shal y x = true) → b [s0, .dat (.list acc) true, .dat x false] = .nx [s0, .dat (.list (if acc.getLast?.any (fun y => PyData.eqv y x) = true then acc else acc ++ [x])) true, .dat x false]) :
    ∀ (l acc : List PyData) (y : Sl), acc.length + l.length < 10000 → (∀ x ∈ acc ++ l, ∀ z ∈ l, shal x z = true) → ∃ y', forL (.one 2) b l [s0, .dat (.list acc) true, y] = .nx [s0, .dat (.list (dedG acc l)) true, y']
  | [], acc, y, _, _ => ⟨y, rfl⟩
  | x :: r, acc, y, hl, hs => by
    have h1 := hb acc x (by simp at hl; omega) (fun z hz => hs z (by simp [hz]) x (by simp))
    obtain ⟨y', h2⟩ := ded_loop hb r (if acc.getLast?.any (fun y => PyData.eqv y x) = true then acc else acc ++ [x]) (.dat x false) (by split <;> simp at hl ⊢ <;> omega) (by
      intro a ha z hz
      refine hs a ?_ z (List.mem_cons_of_mem _ hz)
      rcases List.mem_append.mp ha with ha | ha
      · split at ha
        · simp [ha]
        · rcases List.mem_append.mp ha with ha | ha
          · simp [ha]
          · simp [List.mem_singleton.mp ha]
      · simp [ha])
    refine ⟨y', ?_⟩
    rw [forL_cons, tgSet_one]
    show (match b [s0, .dat (.list acc) true, .dat x false] with | .nx ρ' => forL (.one 2) b r ρ' | .ct ρ' => forL (.one 2) b r ρ' | .bk ρ' => .nx ρ' | r => r) = _
    rw [h1]
    exact h2
/-! texts -/
def dedSG (acc : List Str) : List Str → List Str
  | [] => acc
  | x :: r => dedSG (if acc.getLast? = some x then acc else acc ++ [x]) r
def dedS (l : List Str) : List Str := dedSG [] l
theorem eqv_str (a b : Str) : PyData.eqv (.str a) (.str b) = decide (a = b) := by
  simp [PyData.eqv, Bool.beq_eq_decide_eq]
theorem dedG_strs : ∀ (l acc : List Str), dedG (acc.map .str) (l.map .str) = (dedSG acc l).map .str
  | [], acc => rfl
  | x :: r, acc => by
    show dedG (if (acc.map PyData.str).getLast?.any (fun y => PyData.eqv y (.str x)) = true then acc.map .str else acc.map .str ++ [.str x]) (r.map .str) = (dedSG (if acc.getLast? = some x then acc else acc ++ [x]) r).map .str
    have e : (acc.map PyData.str).getLast?.any (fun y => PyData.eqv y (.str x)) = decide (acc.getLast? = some x) := by
      rw [List.getLast?_map]
      cases acc.getLast? with
      | none => simp
      | some y => simp [eqv_str]
    rw [e]
    by_cases h : acc.getLast? = some x
    · rw [if_pos h, decide_eq_true h, if_pos rfl]
      exact dedG_strs r acc
    · rw [if_neg h, decide_eq_false h, if_neg (by simp)]
      have := dedG_strs r (acc ++ [x])
      rw [List.map_append] at this
      exact this
def Sorted (l : List Str) : Prop := l.Pairwise fun a b => leS a b = true
def SSorted (l : List Str) : Prop := l.Pairwise fun a b => leS a b = true ∧ a ≠ b
theorem srt_sorted (l : List Str) : Sorted (srt l) := List.pairwise_mergeSort leS_trans leS_total l
theorem srt_perm (l : List Str) : (srt l).Perm l := List.mergeSort_perm l leS
theorem mem_srt {l : List Str} {x : Str} : x ∈ srt l ↔ x ∈ l := (srt_perm l).mem_iff
theorem SSorted.nodup {l : List Str} (h : SSorted l) : l.Nodup := h.imp fun z => z.2
theorem dedSG_ok : ∀ (l acc : List Str), SSorted acc → Sorted l → (∀ a ∈ acc, ∀ b ∈ l, leS a b = true) → SSorted (dedSG acc l) ∧ ∀ x, x ∈ dedSG acc l ↔ x ∈ acc ∨ x ∈ l
  | [], acc, h1, _, _ => ⟨h1, fun x => by simp [dedSG]⟩
  | y :: r, acc, h1, h2, h3 => by
    obtain ⟨g1, g2⟩ := List.pairwise_cons.mp h2
    unfold dedSG
    split
    · rename_i hl
      have hy : y ∈ acc := List.mem_of_getLast? hl
      obtain ⟨q1, q2⟩ := dedSG_ok r acc h1 g2 fun a ha b hb => h3 a ha b (List.mem_cons_of_mem _ hb)
      refine ⟨q1, fun x => ?_⟩
      rw [q2]
      constructor
      · rintro (h | h)
        · exact .inl h
        · exact .inr (List.mem_cons_of_mem _ h)
      · rintro (h | h)
        · exact .inl h
        · rcases List.mem_cons.mp h with rfl | h
          · exact .inl hy
          · exact .inr h
    · rename_i hl
      have ha : SSorted (acc ++ [y]) := by
        refine List.pairwise_append.mpr ⟨h1, List.pairwise_singleton .., ?_⟩
        intro a ha b hb
        rw [List.mem_singleton.mp hb]
        have hay := h3 a ha y List.mem_cons_self
        refine ⟨hay, fun e => ?_⟩
        subst e
        obtain ⟨z, hz⟩ : ∃ z, acc.getLast? = some z := by
          cases he : acc.getLast? with
          | none => rw [List.getLast?_eq_none_iff] at he; subst he; cases ha
          | some z => exact ⟨z, rfl⟩
        have hzm := List.mem_of_getLast? hz
        have hza : leS z a = true := h3 z hzm a List.mem_cons_self
        have : a = z := by
          obtain ⟨init, rfl⟩ := List.getLast?_eq_some_iff.mp hz
          rcases List.mem_append.mp ha with hi | hi
          · have := (List.pairwise_append.mp h1).2.2 a hi z (by simp)
            exact leS_anti this.1 hza
          · exact List.mem_singleton.mp hi
        subst this
        exact hl hz
      obtain ⟨q1, q2⟩ := dedSG_ok r (acc ++ [y]) ha g2 (by
        intro a ha b hb
        rcases List.mem_append.mp ha with ha | ha
        · exact h3 a ha b (List.mem_cons_of_mem _ hb)
        · rw [List.mem_singleton.mp ha]; exact g1 b hb)
      refine ⟨q1, fun x => ?_⟩
      rw [q2, List.mem_append, List.mem_singleton, List.mem_cons, or_assoc]
theorem dedS_ok (l : List Str) : SSorted (dedS (srt l)) ∧ ∀ x, x ∈ dedS (srt l) ↔ x ∈ l := by
  obtain ⟨h1, h2⟩ := dedSG_ok (srt l) [] List.Pairwise.nil (srt_sorted l) (by simp)
  refine ⟨h1, fun x => ?_⟩
  have := h2 x
  simp only [List.not_mem_nil, false_or] at this
  exact this.trans mem_srt
theorem dedSG_sub : ∀ (l acc : List Str), (dedSG acc l).Sublist (acc ++ l)
  | [], acc => by rw [List.append_nil]; exact List.Sublist.refl _
  | x :: r, acc => by
    unfold dedSG
    split
    · exact (dedSG_sub r acc).trans (List.Sublist.append (List.Sublist.refl _) (List.sublist_cons_self x r))
    · have := dedSG_sub r (acc ++ [x])
      rwa [List.append_assoc] at this
theorem dedSG_same : ∀ (l acc : List Str), (acc ++ l).Nodup → dedSG acc l = acc ++ l
  | [], acc, _ => by rw [List.append_nil]; rfl
  | x :: r, acc, h => by
    unfold dedSG
    have hn : ¬ acc.getLast? = some x := fun e => by
      have := List.mem_of_getLast? e
      exact (List.nodup_append.mp h).2.2 x this x List.mem_cons_self rfl
    rw [if_neg hn, dedSG_same r (acc ++ [x]) (by rw [List.append_assoc]; exact h), List.append_assoc]
    rfl
/-- as many neighbours as items: no item twice -/
theorem dedS_len (l : List Str) : (dedS (srt l)).length = l.length ↔ l.Nodup := by
  have hp := srt_perm l
  constructor
  · intro h
    have hs := dedSG_sub (srt l) []
    rw [List.nil_append] at hs
    have e : dedS (srt l) = srt l := hs.eq_of_length (by show (dedS (srt l)).length = _; rw [h, hp.length_eq])
    rw [← hp.nodup_iff, ← e]
    exact (dedS_ok l).1.nodup
  · intro h
    have h2 : (srt l).Nodup := hp.nodup_iff.mpr h
    have e : dedS (srt l) = [] ++ srt l := dedSG_same (srt l) [] h2
    rw [e, List.nil_append, hp.length_eq]
theorem shal_str (a b : Str) : shal (.str a) (.str b) = true := by simp [shal, PyData.depth]
end Pv


/-! neighbours that are alike, for any kind of item; ints and pairs of numbers -/
namespace Pv
open PySem PySem.Spec L2
open PyProof.Rows hiding St
section
variable {α : Type} [DecidableEq α]
def dedAG (acc : List α) : List α → List α
  | [] => acc
  | x :: r => dedAG (if acc.getLast? = some x then acc else acc ++ [x]) r
def dedA (l : List α) : List α := dedAG [] l
theorem dedG_enc {enc : α → PyData} (he : ∀ a b, PyData.eqv (enc a) (enc b) = decide (a = b)) : ∀ (l acc : List α), dedG (acc.map enc) (l.map enc) = (dedAG acc l).map enc
  | [], acc => rfl
  | x :: r, acc => by
    show dedG (if (acc.map enc).getLast?.any (fun y => PyData.eqv y (enc x)) = true then acc.map enc else acc.map enc ++ [enc x]) (r.map enc) = (dedAG (if acc.getLast? = some x then acc else acc ++ [x]) r).map enc
    have e : (acc.map enc).getLast?.any (fun y => PyData.eqv y (enc x)) = decide (acc.getLast? = some x) := by
      rw [List.getLast?_map]
      cases acc.getLast? with
      | none => simp
      | some y => simp [he]
    rw [e]
    by_cases h : acc.getLast? = some x
    · rw [if_pos h, decide_eq_true h, if_pos rfl]
      exact dedG_enc he r acc
    · rw [if_neg h, decide_eq_false h, if_neg (by simp)]
      have := dedG_enc he r (acc ++ [x])
      rw [List.map_append] at this
      exact this
structure OrdA (le : α → α → Bool) : Prop where
  total : ∀ a b, (le a b || le b a) = true
  trans : ∀ a b c, le a b = true → le b c = true → le a c = true
  anti : ∀ {a b}, le a b = true → le b a = true → a = b
def AscA (le : α → α → Bool) (l : List α) : Prop := l.Pairwise fun a b => le a b = true ∧ a ≠ b
theorem AscA.nodup {le : α → α → Bool} {l : List α} (h : AscA le l) : l.Nodup := h.imp fun z => z.2
theorem AscA.sorted {le : α → α → Bool} {l : List α} (h : AscA le l) : l.Pairwise fun a b => le a b = true := h.imp fun z => z.1
theorem dedAG_ok {le : α → α → Bool} (o : OrdA le) : ∀ (l acc : List α), AscA le acc → (l.Pairwise fun a b => le a b = true) → (∀ a ∈ acc, ∀ b ∈ l, le a b = true) → AscA le (dedAG acc l) ∧ ∀ x, x ∈ dedAG acc l ↔ x ∈ acc ∨ x ∈ l
  | [], acc, h1, _, _ => ⟨h1, fun x => by simp [dedAG]⟩
  | y :: r, acc, h1, h2, h3 => by
    obtain ⟨g1, g2⟩ := List.pairwise_cons.mp h2
    unfold dedAG
    split
    · rename_i hl
      have hy : y ∈ acc := List.mem_of_getLast? hl
      obtain ⟨q1, q2⟩ := dedAG_ok o r acc h1 g2 fun a ha b hb => h3 a ha b (List.mem_cons_of_mem _ hb)
      refine ⟨q1, fun x => ?_⟩
      rw [q2]
      constructor
      · rintro (h | h)
        · exact .inl h
        · exact .inr (List.mem_cons_of_mem _ h)
      · rintro (h | h)
        · exact .inl h
        · rcases List.mem_cons.mp h with rfl | h
          · exact .inl hy
          · exact .inr h
    · rename_i hl
      have ha : AscA le (acc ++ [y]) := by
        refine List.pairwise_append.mpr ⟨h1, List.pairwise_singleton .., ?_⟩
        intro a ha b hb
        rw [List.mem_singleton.mp hb]
        have hay := h3 a ha y List.mem_cons_self
        refine ⟨hay, fun e => ?_⟩
        subst e
        obtain ⟨z, hz⟩ : ∃ z, acc.getLast? = some z := by
          cases he : acc.getLast? with
          | none => rw [List.getLast?_eq_none_iff] at he; subst he; cases ha
          | some z => exact ⟨z, rfl⟩
        have hzm := List.mem_of_getLast? hz
        have hza : le z a = true := h3 z hzm a List.mem_cons_self
        have : a = z := by
          obtain ⟨init, rfl⟩ := List.getLast?_eq_some_iff.mp hz
          rcases List.mem_append.mp ha with hi | hi
          · have := (List.pairwise_append.mp h1).2.2 a hi z (by simp)
            exact o.anti this.1 hza
          · exact List.mem_singleton.mp hi
        subst this
        exact hl hz
      obtain ⟨q1, q2⟩ := dedAG_ok o r (acc ++ [y]) ha g2 (by
        intro a ha b hb
        rcases List.mem_append.mp ha with ha | ha
        · exact h3 a ha b (List.mem_cons_of_mem _ hb)
        · rw [List.mem_singleton.mp ha]; exact g1 b hb)
      refine ⟨q1, fun x => ?_⟩
      rw [q2, List.mem_append, List.mem_singleton, List.mem_cons, or_assoc]
def srtA (le : α → α → Bool) (l : List α) : List α := l.mergeSort le
/-- sorted, each item once -/
def distA (le : α → α → Bool) (l : List α) : List α := dedA (srtA le l)
theorem srtA_perm (le : α → α → Bool) (l : List α) : (srtA le l).Perm l := List.mergeSort_perm l le
theorem srtA_sorted {le : α → α → Bool} (o : OrdA le) (l : List α) : (srtA le l).Pairwise fun a b => le a b = true := List.pairwise_mergeSort o.trans o.total l
theorem distA_ok {le : α → α → Bool} (o : OrdA le) (l : List α) : AscA le (distA le l) ∧ ∀ x, x ∈ distA le l ↔ x ∈ l := by
  obtain ⟨h1, h2⟩ := dedAG_ok o (srtA le l) [] List.Pairwise.nil (srtA_sorted o l) (by simp)
  refine ⟨h1, fun x => ?_⟩
  have := h2 x
  simp only [List.not_mem_nil, false_or] at this
  exact this.trans (srtA_perm le l).mem_iff
theorem dedAG_sub : ∀ (l acc : List α), (dedAG acc l).Sublist (acc ++ l)
  | [], acc => by rw [List.append_nil]; exact List.Sublist.refl _
  | x :: r, acc => by
    unfold dedAG
    split
    · exact (dedAG_sub r acc).trans (List.Sublist.append (List.Sublist.refl _) (List.sublist_cons_self x r))
    · have := dedAG_sub r (acc ++ [x])
      rwa [List.append_assoc] at this
theorem distA_le (le : α → α → Bool) (l : List α) : (distA le l).length ≤ l.length := by
  have h := (dedAG_sub (srtA le l) []).length_le
  rw [List.nil_append, (srtA_perm le l).length_eq] at h
  exact h
theorem dedAG_same : ∀ (l acc : List α), (acc ++ l).Nodup → dedAG acc l = acc ++ l
  | [], acc, _ => by rw [List.append_nil]; rfl
  | x :: r, acc, h => by
    unfold dedAG
    have hn : ¬ acc.getLast? = some x := fun e => by
      have := List.mem_of_getLast? e
      exact (List.nodup_append.mp h).2.2 x this x List.mem_cons_self rfl
    rw [if_neg hn, dedAG_same r (acc ++ [x]) (by rw [List.append_assoc]; exact h), List.append_assoc]
    rfl
/-- as many neighbours as items: no item twice -/
theorem distA_len {le : α → α → Bool} (o : OrdA le) (l : List α) : (distA le l).length = l.length ↔ l.Nodup := by
  have hp := srtA_perm le l
  constructor
  · intro h
    have hs := dedAG_sub (srtA le l) []
    rw [List.nil_append] at hs
    have e : distA le l = srtA le l := hs.eq_of_length (by show (distA le l).length = _; rw [h, hp.length_eq])
    rw [← hp.nodup_iff, ← e]
    exact (distA_ok o l).1.nodup
  · intro h
    have h2 : (srtA le l).Nodup := hp.nodup_iff.mpr h
    have e : distA le l = [] ++ srtA le l := dedAG_same (srtA le l) [] h2
    rw [e, List.nil_append, hp.length_eq]
/-- what ascends stays -/
theorem distA_asc {le : α → α → Bool} {l : List α} (h : AscA le l) : distA le l = l := by
  have e : srtA le l = l := List.mergeSort_of_pairwise h.sorted
  unfold distA
  rw [e]
  exact dedAG_same l [] h.nodup
/-- data whose order is le -/
structure EncA (enc : α → PyData) (le : α → α → Bool) : Prop where
  eq : ∀ a b, PyData.eqv (enc a) (enc b) = decide (a = b)
  le : ∀ a b, PySem.W.dataLe false (fun d => d) (enc a) (enc b) = le a b
  nd : ∀ a, noDic (enc a) = true
  al : ∀ a b, PySem.W.alike (enc a) (enc b) = true
  so : (∀ a, ∃ x xs, enc a = .tuple (x :: xs)) ∨ ∀ a, (match enc a with | .none => false | .tuple _ => false | _ => true) = true
  dp : ∀ a, (enc a).depth ≤ 60
  sh : ∀ a b, shal (enc a) (enc b) = true
variable {enc : α → PyData} {le : α → α → Bool}
theorem EncA.noDics (h : EncA enc le) (l : List α) : noDics (l.map enc) = true := noDics_all fun d hd => by
  obtain ⟨x, _, rfl⟩ := List.mem_map.mp hd
  exact h.nd x
theorem EncA.sortD (h : EncA enc le) (l : List α) : sortD (.list (l.map enc)) = .ok (.list ((srtA le l).map enc)) := by
  have h1 : alikeB (l.map enc) = true := by
    unfold alikeB
    rw [List.all_eq_true]
    intro x hx
    rw [List.all_eq_true]
    intro y hy
    obtain ⟨a, _, rfl⟩ := List.mem_map.mp hx
    obtain ⟨b, _, rfl⟩ := List.mem_map.mp hy
    exact h.al a b
  have h2 : sortB (l.map enc) = true := by
    unfold sortB
    rw [Bool.or_eq_true]
    rcases h.so with h | h
    · left
      rw [List.all_eq_true]
      intro x hx
      obtain ⟨a, _, rfl⟩ := List.mem_map.mp hx
      obtain ⟨x, xs, e⟩ := h a
      rw [e]
    · right
      rw [List.all_eq_true]
      intro x hx
      obtain ⟨a, _, rfl⟩ := List.mem_map.mp hx
      exact h a
  have h3 : (l.map enc).all (fun d => decide (d.depth ≤ 60)) = true := by
    rw [List.all_eq_true]
    intro x hx
    obtain ⟨a, _, rfl⟩ := List.mem_map.mp hx
    exact decide_eq_true (h.dp a)
  show (if _ then R.ok (PyData.list (sortedL (l.map enc))) else .bad) = _
  rw [if_pos ⟨h.noDics l, h1, h2, h3⟩]
  have : sortedL (l.map enc) = (srtA le l).map enc := by
    unfold sortedL srtA
    rw [List.map_mergeSort]
    intro a _ b _
    exact (h.le a b).symm
  rw [this]
theorem EncA.ded (h : EncA enc le) (l : List α) : ded ((srtA le l).map enc) = (distA le l).map enc := dedG_enc h.eq (srtA le l) []
theorem EncA.shal (h : EncA enc le) (l l' : List α) : ∀ x ∈ l.map enc, ∀ z ∈ l'.map enc, Pv.shal x z = true := by
  intro x hx z hz
  obtain ⟨a, _, rfl⟩ := List.mem_map.mp hx
  obtain ⟨b, _, rfl⟩ := List.mem_map.mp hz
  exact h.sh a b
end
/-! ints -/
def leI (a b : Int) : Bool := decide (a ≤ b)
theorem ordI : OrdA leI where
  total a b := by
    unfold leI
    rcases Int.le_total a b with h | h <;> simp [h]
  trans a b c h1 h2 := by
    unfold leI at *
    rw [decide_eq_true_iff] at *
    omega
  anti {a b} h1 h2 := by
    unfold leI at *
    rw [decide_eq_true_iff] at *
    omega
theorem encI : EncA .int leI where
  eq a b := by simp [PyData.eqv, Bool.beq_eq_decide_eq]
  le a b := by
    have e : PySem.W.dataLe false (fun d => d) (PyData.int a) (PyData.int b) = !PySem.W.dataLt (.int b) (.int a) := rfl
    rw [e, PySem.W.dataLt_int]
    unfold leI
    rw [← decide_not]
    exact decide_eq_decide.mpr Int.not_lt
  nd a := rfl
  al a b := rfl
  so := .inr fun a => rfl
  dp a := by simp [PyData.depth]
  sh a b := by simp [Pv.shal, PyData.depth]
/-! pairs of numbers -/
abbrev NP := Nat × Nat
def prN (p : NP) : PyData := .tuple [.int p.1, .int p.2]
def leN (p q : NP) : Bool := decide (p.1 < q.1 ∨ p.1 = q.1 ∧ p.2 ≤ q.2)
theorem ordN : OrdA leN where
  total a b := by
    unfold leN
    rw [Bool.or_eq_true, decide_eq_true_iff, decide_eq_true_iff]
    omega
  trans a b c h1 h2 := by
    unfold leN at *
    rw [decide_eq_true_iff] at *
    omega
  anti {a b} h1 h2 := by
    unfold leN at *
    rw [decide_eq_true_iff] at *
    exact Prod.ext (by omega) (by omega)
theorem eqv_prN (a b : NP) : PyData.eqv (prN a) (prN b) = decide (a = b) := by
  obtain ⟨a1, a2⟩ := a
  obtain ⟨b1, b2⟩ := b
  simp [prN, PyData.eqv, PyData.eqvAll, Bool.beq_eq_decide_eq, ← Bool.decide_and]
  omega
theorem encN : EncA prN leN where
  eq := eqv_prN
  le a b := by
    have e : PySem.W.dataLe false (fun d => d) (prN a) (prN b) = !PySem.W.dataLt (prN b) (prN a) := rfl
    rw [e]
    unfold prN leN
    rw [PySem.W.dataLt_ii, ← decide_not]
    apply decide_eq_decide.mpr
    omega
  nd a := rfl
  al a b := by simp [prN, PySem.W.alike, PySem.W.alikeAll]
  so := .inl fun a => ⟨_, _, rfl⟩
  dp a := by simp [prN, PyData.depth, PyData.depthAll]
  sh a b := by simp [Pv.shal, prN, PyData.depth, PyData.depthAll]
theorem ltD_prN (a b : NP) : ltD (prN a) (prN b) = .ok (.bool (!leN b a)) := by
  have : PySem.W.dataLt (prN a) (prN b) = !leN b a := by
    rw [← encN.le b a]
    show _ = !(!PySem.W.dataLt (prN a) (prN b))
    rw [Bool.not_not]
  unfold ltD
  rw [if_pos (by simp [cmpOk, Pv.shal, prN, PyData.depth, PyData.depthAll, PySem.W.alike, PySem.W.alikeAll]), this]
/-! loops that may stop -/
def Stop (r : Fw) : Prop := (∃ d, r = .rt d) ∨ ∃ n es ρ, r = .exc n es ρ
theorem forL_or {α : Type} (m : α → PyData) (I : List α → En → Prop) (Q : Fw → Prop) {i : Nat} {b : CS} (l : List α) (h : ∀ done a rest ρ, l = done ++ a :: rest → I done ρ → (∃ ρ', (b (ρ.set i (.dat (m a) false)) = .nx ρ' ∨ b (ρ.set i (.dat (m a) false)) = .ct ρ') ∧ I (done ++ [a]) ρ') ∨ (Stop (b (ρ.set i (.dat (m a) false))) ∧ Q (b (ρ.set i (.dat (m a) false))))) {ρ : En} (h0 : I [] ρ) : (∃ ρ', forL (.one i) b (l.map m) ρ = .nx ρ' ∧ I l ρ') ∨ (Stop (forL (.one i) b (l.map m) ρ) ∧ Q (forL (.one i) b (l.map m) ρ)) := by
  have go : ∀ (rest done : List α) (ρ : En), l = done ++ rest → I done ρ → (∃ ρ', forL (.one i) b (rest.map m) ρ = .nx ρ' ∧ I l ρ') ∨ (Stop (forL (.one i) b (rest.map m) ρ) ∧ Q (forL (.one i) b (rest.map m) ρ)) := by
    intro rest
    induction rest with
    | nil => intro done ρ e hI; exact .inl ⟨ρ, rfl, by rw [e, List.append_nil]; exact hI⟩
    | cons a rest ih =>
      intro done ρ e hI
      have hx : forL (.one i) b ((a :: rest).map m) ρ = (match b (ρ.set i (.dat (m a) false)) with | .nx ρ' => forL (.one i) b (rest.map m) ρ' | .ct ρ' => forL (.one i) b (rest.map m) ρ' | .bk ρ' => .nx ρ' | r => r) := by
        rw [List.map_cons, forL_cons]; rfl
      rcases h done a rest ρ e hI with ⟨ρ', hb, hI'⟩ | ⟨hs, hq⟩
      · have q := ih (done ++ [a]) ρ' (by rw [e]; simp) hI'
        have hy : forL (.one i) b ((a :: rest).map m) ρ = forL (.one i) b (rest.map m) ρ' := by
          rw [hx]
          rcases hb with hb | hb <;> rw [hb]
        rw [hy]
        exact q
      · right
        have hy : forL (.one i) b ((a :: rest).map m) ρ = b (ρ.set i (.dat (m a) false)) := by
          rw [hx]
          rcases hs with ⟨d, e⟩ | ⟨n, es, ρ', e⟩ <;> rw [e]
        rw [hy]
        exact ⟨hs, hq⟩
  exact go l [] ρ rfl h0
/-- a loop whose every turn but one goes on, and that one stops -/
theorem forL_stop {α : Type} (m : α → PyData) (S : Sl → En) {i : Nat} {b : CS} (l1 l2 : List α) (a : α) (r : Fw) (hS : ∀ x y, (S x).set i y = S y) (h : ∀ x ∈ l1, b (S (.dat (m x) false)) = .nx (S (.dat (m x) false))) (hr : b (S (.dat (m a) false)) = r) (hs : Stop r) : ∀ x, forL (.one i) b ((l1 ++ a :: l2).map m) (S x) = r := by
  induction l1 with
  | nil =>
    intro x
    rw [List.nil_append, List.map_cons, forL_cons, tgSet_one, hS]
    show (match b (S (.dat (m a) false)) with | .nx ρ' => _ | .ct ρ' => _ | .bk ρ' => _ | r => r) = _
    rw [hr]
    rcases hs with ⟨d, e⟩ | ⟨n, es, ρ', e⟩ <;> rw [e]
  | cons c l1 ih =>
    intro x
    rw [List.cons_append, List.map_cons, forL_cons, tgSet_one, hS]
    show (match b (S (.dat (m c) false)) with | .nx ρ' => forL (.one i) b ((l1 ++ a :: l2).map m) ρ' | .ct ρ' => _ | .bk ρ' => _ | r => r) = _
    rw [h c List.mem_cons_self]
    exact ih (fun x hx => h x (List.mem_cons_of_mem _ hx)) _
theorem range_split {m n : Nat} (h : m < n) : ∃ l, List.range n = List.range m ++ m :: l := by
  obtain ⟨k, rfl⟩ : ∃ k, n = m + (k + 1) := ⟨n - m - 1, by omega⟩
  refine ⟨(List.range k).map fun i => m + (i + 1), ?_⟩
  rw [List.range_add, List.range_succ_eq_map, List.map_cons, List.map_map]
  rfl
theorem setAll2 (i j : Nat) (a b : PyData) (ρ : En) : tgSet (.tup [i, j]) (.tuple [a, b]) ρ = .ok ((ρ.set i (.dat a false)).set j (.dat b false)) := rfl
theorem compL_on2 {α : Type} (x y : α → PyData) (p : α → Bool) (f : α → PyData) {i j : Nat} {t : CT} {e : CE} {ρ : En} {l : List α} (h : ∀ a ∈ l, t ((ρ.set i (.dat (x a) false)).set j (.dat (y a) false)) = .ok (p a) ∧ (p a = true → e ((ρ.set i (.dat (x a) false)).set j (.dat (y a) false)) = .ok (f a))) : compL (.tup [i, j]) t e ρ (l.map fun a => .tuple [x a, y a]) = .ok ((l.filter p).map f) := by
  induction l with
  | nil => rfl
  | cons a l ih =>
    have ih := ih fun b hb => h b (List.mem_cons_of_mem _ hb)
    obtain ⟨h2, h3⟩ := h a List.mem_cons_self
    show ((tgSet (.tup [i, j]) (.tuple [x a, y a]) ρ).bind fun ρ' => (t ρ').bind fun b => if b = true then (e ρ').bind fun z => (compL (.tup [i, j]) t e ρ (l.map fun a => .tuple [x a, y a])).bind fun ys => .ok (z :: ys) else compL (.tup [i, j]) t e ρ (l.map fun a => .tuple [x a, y a])) = _
    rw [setAll2, R.bind_ok, h2, R.bind_ok]
    cases hp : p a with
    | true => rw [if_pos rfl, h3 hp, R.bind_ok, ih, R.bind_ok, List.filter_cons, hp, if_pos rfl, List.map_cons]
    | false => rw [if_neg (by simp), ih, List.filter_cons, hp, if_neg (by simp)]
theorem forL_inv2 {α : Type} (x y : α → PyData) (I : List α → En → Prop) {i j : Nat} {b : CS} (l : List α) (h : ∀ done a rest ρ, l = done ++ a :: rest → I done ρ → ∃ ρ', b ((ρ.set i (.dat (x a) false)).set j (.dat (y a) false)) = .nx ρ' ∧ I (done ++ [a]) ρ') {ρ : En} (h0 : I [] ρ) : ∃ ρ', forL (.tup [i, j]) b (l.map fun a => .tuple [x a, y a]) ρ = .nx ρ' ∧ I l ρ' := by
  have go : ∀ (rest done : List α) (ρ : En), l = done ++ rest → I done ρ → ∃ ρ', forL (.tup [i, j]) b (rest.map fun a => .tuple [x a, y a]) ρ = .nx ρ' ∧ I l ρ' := by
    intro rest
    induction rest with
    | nil => intro done ρ e hI; exact ⟨ρ, rfl, by rw [e, List.append_nil]; exact hI⟩
    | cons a rest ih =>
      intro done ρ e hI
      obtain ⟨ρ', hb, hI'⟩ := h done a rest ρ e hI
      obtain ⟨ρ2, h1, h2⟩ := ih (done ++ [a]) ρ' (by rw [e]; simp) hI'
      refine ⟨ρ2, ?_, h2⟩
      rw [List.map_cons, forL_cons, setAll2]
      show (match b ((ρ.set i (.dat (x a) false)).set j (.dat (y a) false)) with | .nx ρ' => forL (.tup [i, j]) b (rest.map fun a => .tuple [x a, y a]) ρ' | .ct ρ' => _ | .bk ρ' => _ | r => r) = _
      rw [hb]; exact h1
  exact go l [] ρ rfl h0
end Pv


/-! dicts whose keys are numbers -/
namespace Pv
open PySem PySem.Spec L2
open PyProof.Rows hiding St
@[simp] theorem neD_str (a b : Str) : neD (.str a) (.str b) = .ok (.bool (!decide (a = b))) := by
  simp [neD, shal, PyData.depth, PyData.eqv, Bool.beq_eq_decide_eq]
theorem fnd_map (k k' : Key) (v : PyData) : ∀ kvs : List (PyData × PyData), fndG keyK k' (kvs.map fun p => if keyK p.1 = some k then (p.1, v) else p) = if k' = k then (fndG keyK k kvs).map fun _ => v else fndG keyK k' kvs
  | [] => by by_cases h : k' = k <;> simp [fndG, h]
  | p :: r => by
    have ih := fnd_map k k' v r
    rw [List.map_cons]
    unfold fndG
    rw [ih]
    by_cases h1 : keyK p.1 = some k
    · rw [if_pos h1]
      by_cases h2 : k' = k
      · subst h2
        simp [h1]
      · have h3 : ¬ some k = some k' := fun e => h2 (by injection e with e; exact e.symm)
        simp [h1, h2, h3]
    · rw [if_neg h1]
      by_cases h2 : k' = k
      · subst h2
        simp [h1]
      · by_cases h3 : keyK p.1 = some k'
        · simp [h3, h2]
        · simp [h3, h2]
theorem fnd_app (k : Key) (p : PyData × PyData) : ∀ kvs : List (PyData × PyData), fndG keyK k (kvs ++ [p]) = match fndG keyK k kvs with | some d => some d | none => if keyK p.1 = some k then some p.2 else none
  | [] => rfl
  | q :: r => by
    have ih := fnd_app k p r
    rw [List.cons_append]
    unfold fndG
    rw [ih]
    by_cases h : keyK q.1 = some k
    · simp [h]
    · simp [h]
theorem fnd_put (k k' : Key) (v : PyData) (kvs : List (PyData × PyData)) : fndG keyK k' (putG keyK kD k v kvs) = if k' = k then some v else fndG keyK k' kvs := by
  unfold putG
  split
  · rename_i h
    rw [fnd_map]
    by_cases h2 : k' = k
    · rw [if_pos h2, if_pos h2]
      obtain ⟨d, hd⟩ := Option.isSome_iff_exists.mp h
      rw [hd]; rfl
    · rw [if_neg h2, if_neg h2]
  · rename_i h
    rw [fnd_app]
    by_cases h2 : k' = k
    · subst h2
      have : fndG keyK k' kvs = none := by simpa using h
      rw [this, if_pos rfl]
      simp [keyK_kD]
    · rw [if_neg h2]
      cases fndG keyK k' kvs with
      | some d => rfl
      | none =>
        have h3 : ¬ some k = some k' := fun e => h2 (by injection e with e; exact e.symm)
        simp [keyK_kD, h3]
theorem allK_put (k : Key) (v : PyData) {kvs : List (PyData × PyData)} (h : allK kvs = true) : allK (putG keyK kD k v kvs) = true := by
  unfold putG
  unfold allK at *
  split
  · rw [List.all_eq_true] at *
    intro q hq
    obtain ⟨p, hp, rfl⟩ := List.mem_map.mp hq
    split
    · exact h p hp
    · exact h p hp
  · rw [List.all_append, h]
    simp [keyK_kD]
/-- what a dict holds for each number -/
structure DcN (kvs : List (PyData × PyData)) (f : Nat → Option PyData) : Prop where
  all : allK kvs = true
  at_ : ∀ m : Nat, fndG keyK (.inl (m : Int)) kvs = f m
theorem DcN.nil : DcN [] fun _ => none := ⟨rfl, fun _ => rfl⟩
theorem DcN.put {kvs : List (PyData × PyData)} {f : Nat → Option PyData} (h : DcN kvs f) (m : Nat) (v : PyData) : DcN (putG keyK kD (.inl (m : Int)) v kvs) fun x => if x = m then some v else f x := by
  refine ⟨allK_put _ _ h.all, fun x => ?_⟩
  rw [fnd_put, h.at_]
  by_cases e : x = m
  · subst e; rw [if_pos rfl, if_pos rfl]
  · rw [if_neg e, if_neg]
    intro z
    injection z with z
    omega
theorem DcN.congr {kvs : List (PyData × PyData)} {f g : Nat → Option PyData} (h : DcN kvs f) (e : ∀ x, f x = g x) : DcN kvs g := ⟨h.all, fun m => (h.at_ m).trans (e m)⟩
theorem DcN.get {kvs : List (PyData × PyData)} {f : Nat → Option PyData} (h : DcN kvs f) (m : Nat) : getKD kvs (.int m) = .ok (f m) := by
  show (if allK kvs = true then R.ok (fndG keyK (.inl (m : Int)) kvs) else .bad) = _
  rw [if_pos h.all, h.at_]
theorem DcN.in_ {kvs : List (PyData × PyData)} {f : Nat → Option PyData} (h : DcN kvs f) (m : Nat) : inD (.int m) (.dict kvs) = .ok (.bool (f m).isSome) := by
  show ((getKD kvs (.int m)).bind fun r => R.ok r.isSome).bind _ = _
  rw [h.get]; rfl
theorem DcN.notIn {kvs : List (PyData × PyData)} {f : Nat → Option PyData} (h : DcN kvs f) (m : Nat) : notInD (.int m) (.dict kvs) = .ok (.bool (!(f m).isSome)) := by
  show ((getKD kvs (.int m)).bind fun r => R.ok r.isSome).bind _ = _
  rw [h.get]; rfl
theorem DcN.ix {kvs : List (PyData × PyData)} {f : Nat → Option PyData} (h : DcN kvs f) {m : Nat} {d : PyData} (e : f m = some d) : ixD (.dict kvs) (.int m) = .ok d := by
  show (match getKD kvs (.int m) with | .ok (some d) => R.ok d | _ => .bad) = _
  rw [h.get, e]
theorem DcN.get2 {kvs : List (PyData × PyData)} {f : Nat → Option PyData} (h : DcN kvs f) {a b c : CE} {ρ : En} {m : Nat} {z : PyData} (ha : a ρ = .ok (.dict kvs)) (hb : b ρ = .ok (.int m)) (hc : c ρ = .ok z) : cGet2 a b c ρ = .ok ((f m).getD z) := by
  rw [cGet2_ap, ha, R.bind_ok]
  show ((b ρ).bind fun k => (c ρ).bind fun x => (match keyK k with
    | some κ => if allK kvs = true then R.ok ((fndG keyK κ kvs).getD x) else .bad
    | none => .bad)) = _
  rw [hb, R.bind_ok, hc, R.bind_ok]
  show (if allK kvs = true then R.ok ((fndG keyK (.inl (m : Int)) kvs).getD z) else .bad) = _
  rw [if_pos h.all, h.at_]
theorem DcN.sput {kvs : List (PyData × PyData)} {f : Nat → Option PyData} (h : DcN kvs f) {i : Nat} {cj c : CE} {ρ : En} {m : Nat} {v : PyData} (hi : ρ[i]? = some (.dat (.dict kvs) true)) (hj : cj ρ = .ok (.int m)) (hc : c ρ = .ok v) (hl : kvs.length < 16000000) : sPut i cj c ρ = .nx (ρ.set i (.dat (.dict (putG keyK kD (.inl (m : Int)) v kvs)) true)) := by
  rw [sPut_ap, hi]
  show (match c ρ with
    | .ok d => (match cj ρ with
      | .ok k => (match keyK k with
        | some κ => if allK kvs = true ∧ kvs.length < 16000000 then Fw.nx (ρ.set i (.dat (.dict (putG keyK kD κ d kvs)) true)) else .bad
        | none => .bad)
      | _ => .bad)
    | .exc n es => .exc n es ρ
    | .bad => .bad) = _
  rw [hc, hj]
  exact if_pos ⟨h.all, hl⟩
/-- a slot that owns nothing -/
def Cl (y : Sl) : Prop := y = .no ∨ ∃ d, y = .dat d false
theorem cl_no : Cl .no := .inl rfl
theorem cl_dat (d : PyData) : Cl (.dat d false) := .inr ⟨d, rfl⟩
end Pv


namespace Pv.K44
open PySem PySem.Spec L2
open PyProof.Rows hiding St

abbrev prog : Program := PySem.Challenge.pw_pactwork_k44_settlements_and_rings
def shL : List (Str × List Str) := [("_law_rings_right", ["among"])]
def shOf (x : Str) : List Str := (shL.lookup x).getD []
def mkFns : List Stmt → List (List Str) → List FnI
  | .FunctionDef nm ar bd _ _ _ sc _ _ _ :: r, N :: Ns => ⟨nm, ar, ar.args.map (·.arg), bd, sc, N, shOf nm⟩ :: mkFns r Ns
  | .FunctionDef _ _ _ _ _ _ _ _ _ _ :: _, [] => []
  | _ :: r, Ns => mkFns r Ns
  | [], _ => []
def nss : List (List Str) := [
  (["value"] : List Str),
  (["value", "limit", "least", "number"] : List Str),
  (["items", "found", "item"] : List Str),
  (["first", "second"] : List Str),
  (["numbers", "table", "number"] : List Str),
  (["clause", "table", "done", "lapsed"] : List Str),
  (["contract"] : List Str),
  (["contract", "numbers", "table", "index", "clauses", "number", "opening"] : List Str),
  (["contract", "numbers"] : List Str),
  (["contract", "numbers", "number"] : List Str),
  (["value", "count", "number"] : List Str),
  (["rows", "count", "index"] : List Str),
  (["value", "count", "index"] : List Str),
  (["overrides", "number", "upper", "lower"] : List Str),
  (["uppers", "found", "labels", "upper"] : List Str),
  (["count", "overrides", "above", "number", "found", "rank", "news", "label"] : List Str),
  (["value"] : List Str),
  (["row", "above", "label", "rank", "labels", "upper", "smaller"] : List Str),
  (["count", "overrides", "value", "row", "number", "upper"] : List Str),
  (["count", "overrides", "rows", "number"] : List Str),
  (["overrides", "among", "number", "chains", "seen", "index", "chain", "lowers", "upper", "lower"] : List Str),
  (["count", "overrides", "among", "best", "number", "found"] : List Str),
  (["count", "overrides", "value", "among", "number", "index"] : List Str),
  (["contract", "overrides", "rows", "number"] : List Str),
  (["script", "k", "mixed", "cell"] : List Str),
  (["cell", "limits", "found", "rest", "k", "part"] : List Str),
  (["value", "due", "k"] : List Str),
  (["cell", "count", "draws", "rows", "k", "upper", "lower"] : List Str),
  (["items", "found", "item"] : List Str),
  (["rows", "count", "e"] : List Str),
  (["rows", "count", "draws", "pairs", "handed", "at", "wrong", "k", "value", "number", "pair"] : List Str),
  (["pairs", "value", "number", "pair"] : List Str),
  (["row", "above", "labels", "other", "standing"] : List Str),
  (["count", "pairs", "value", "row", "number"] : List Str),
  (["value", "factor", "more", "rows", "row", "rank"] : List Str),
  (["row", "above", "other"] : List Str),
  (["pairs", "value", "number", "row", "rows", "label"] : List Str),
  (["count", "pairs", "value", "draws", "factor", "raised", "number", "rows", "row", "wrong"] : List Str),
  (["pairs", "among", "last", "found", "depth", "pair"] : List Str),
  (["pairs", "among", "best", "first", "far", "lengths", "pair", "length", "k", "left", "lowers"] : List Str),
  (["count", "pairs", "value", "among", "number", "ring", "told", "turned", "wrong"] : List Str),
  (["numbers", "kept", "number"] : List Str),
  (["mask", "count", "k"] : List Str),
  (["count", "pairs", "value", "draws", "clauses", "k", "done", "lapsed", "contract", "told", "e", "among", "number", "kept", "due", "clause"] : List Str),
  (["rows", "count", "draws", "pairs", "value"] : List Str),
  (["script", "draws", "count", "small", "rows", "pairs", "bits"] : List Str)]
def consL : List (Str × PyData) := [("LABELS", (.tuple [(.str "stands"), (.str "falls"), (.str "unsettled")]))]
def clsL : List ClI := [
  ⟨"PactError", [], ["PactError", "ValueError", "Exception"]⟩,
  ⟨"InvalidOrder", [], ["InvalidOrder", "PactError", "ValueError", "Exception"]⟩,
  ⟨"InvalidOverrides", ["index"], ["InvalidOverrides", "PactError", "ValueError", "Exception"]⟩,
  ⟨"Unsettled", ["number"], ["Unsettled", "PactError", "ValueError", "Exception"]⟩]
def G : GI := ⟨mkFns prog.main.body nss, consL, clsL⟩
def clsBody : List Stmt → Str → List Stmt
  | .ClassDef nm _ _ bd _ _ _ _ _ _ _ :: r, x => if nm = x then bd else clsBody r x
  | _ :: r, x => clsBody r x
  | [], _ => []
def iniX (c home sf qual : Str) : IniX := match clsBody prog.main.body home with
  | [.FunctionDef nm ar bd _ _ _ sc _ _ _] => ⟨c, home, sf, nm, qual, ar, bd, sc⟩
  | _ => ⟨c, home, sf, "", qual, ⟨[], [], none, [], [], none, []⟩, [], ⟨.function, [], false, false, []⟩⟩
def iniL : List IniX := [iniX "InvalidOverrides" "InvalidOverrides" "self" "InvalidOverrides.__init__", iniX "Unsettled" "Unsettled" "self" "Unsettled.__init__"]
def P : Prg := ⟨prog, G, iniL⟩
theorem ini0 : IniT prog (iniX "InvalidOverrides" "InvalidOverrides" "self" "InvalidOverrides.__init__") ["index"] where
  pl := by decide +kernel
  sc := ⟨by decide +kernel, by decide +kernel, by decide +kernel, by decide +kernel, by decide +kernel, by decide +kernel, by decide +kernel⟩
  ks := by decide +kernel
  kc := by decide +kernel
  body := ⟨_, _, _, _, _, _, _, _, _, rfl, ⟨_, fun env => rfl⟩, rfl⟩
  top := by decide +kernel
  few := by decide
  ne := by decide
  dbg := by decide +kernel
theorem ini1 : IniT prog (iniX "Unsettled" "Unsettled" "self" "Unsettled.__init__") ["number"] where
  pl := by decide +kernel
  sc := ⟨by decide +kernel, by decide +kernel, by decide +kernel, by decide +kernel, by decide +kernel, by decide +kernel, by decide +kernel⟩
  ks := by decide +kernel
  kc := by decide +kernel
  body := ⟨_, _, _, _, _, _, _, _, _, rfl, ⟨_, fun env => rfl⟩, rfl⟩
  top := by decide +kernel
  few := by decide
  ne := by decide
  dbg := by decide +kernel
theorem iniAll : ∀ d ∈ iniL, ∀ fs, G.flds d.cls = fs → IniT prog d fs.reverse := by
  intro d hd fs hf
  subst hf
  unfold iniL at hd
  simp only [List.mem_cons, List.not_mem_nil, or_false] at hd
  rcases hd with rfl | rfl
  · exact (show (G.flds "InvalidOverrides").reverse = (["index"] : List Str) from by decide +kernel) ▸ ini0
  · exact (show (G.flds "Unsettled").reverse = (["number"] : List Str) from by decide +kernel) ▸ ini1
theorem okP : P.Ok := ⟨by decide +kernel, iniAll, by decide +kernel, trivial⟩
end Pv.K44


namespace Pv.K44
open PySem PySem.Spec L2
open PyProof.Rows hiding St
def looseL : List Str := (["PactError", "InvalidOrder", "InvalidOverrides", "Unsettled", "is_integer", "is_numbers", "distinct", "merge", "new_numbers", "relinked", "size", "renumbered", "kept_only", "struck_all", "LABELS", "is_override", "make_overrides", "is_overrides", "overriders", "label_behind", "settle", "is_row", "is_right", "is_settled", "unsettled_numbers", "ring_from", "ring_of", "is_override_ring", "consolidated", "_law_cell"] : List Str) ++ (["_law_draws", "_law_equal", "_law_drawn_rows", "_law_sorted", "_law_refused", "_law_made_right", "_law_above", "_law_rule", "_law_is_settlement", "_law_raised", "_law_lowest", "_law_changed", "_law_accepted_right", "_law_distances", "_law_ring", "_law_rings_right", "_law_renumbered", "_law_bits", "_law_consolidated_right", "_law_right"] : List Str)
abbrev Rrow : PySem.W.OpenRow := PySem.W.OpenLaw.row PySem.Challenge.rw_pactwork_k44_settlements_and_rings
abbrev hk : PySem.W.Hook := P.hook 4
def ob (s : PySem.W.SharedT) : AlP := P.obsG 4 (HandSHeadRun.getT s)
theorem ob_eq (s : PySem.W.SharedT) : ob s = hk.obs s.abs := Prg.obsG_eq (HandSHeadRun.getT_eq s)
theorem run (w : World) : HandSHeadRun.RunEq Rrow (PySem.W.view Rrow.prog [58]) hk ob 6000 looseL w := by
  intro os
  kernel_rfl

end Pv.K44


namespace Pv.K44
open PySem PySem.Spec L2
open PyProof.Rows hiding St
abbrev FU : Nat := 120
abbrev WN : Nat := 100000
abbrev Ev : Nat → Ph := PhN G WN FU
abbrev f_is_integer : Nat := 0
abbrev f_is_numbers : Nat := 1
abbrev f_distinct : Nat := 2
abbrev f_merge : Nat := 3
abbrev f_new_numbers : Nat := 4
abbrev f_relinked : Nat := 5
abbrev f_size : Nat := 6
abbrev f_renumbered : Nat := 7
abbrev f_kept_only : Nat := 8
abbrev f_struck_all : Nat := 9
abbrev f_is_override : Nat := 10
abbrev f_make_overrides : Nat := 11
abbrev f_is_overrides : Nat := 12
abbrev f_overriders : Nat := 13
abbrev f_label_behind : Nat := 14
abbrev f_settle : Nat := 15
abbrev f_is_row : Nat := 16
abbrev f_is_right : Nat := 17
abbrev f_is_settled : Nat := 18
abbrev f_unsettled_numbers : Nat := 19
abbrev f_ring_from : Nat := 20
abbrev f_ring_of : Nat := 21
abbrev f_is_override_ring : Nat := 22
abbrev f_consolidated : Nat := 23
abbrev f__law_cell : Nat := 24
abbrev f__law_draws : Nat := 25
abbrev f__law_equal : Nat := 26
abbrev f__law_drawn_rows : Nat := 27
abbrev f__law_sorted : Nat := 28
abbrev f__law_refused : Nat := 29
abbrev f__law_made_right : Nat := 30
abbrev f__law_above : Nat := 31
abbrev f__law_rule : Nat := 32
abbrev f__law_is_settlement : Nat := 33
abbrev f__law_raised : Nat := 34
abbrev f__law_lowest : Nat := 35
abbrev f__law_changed : Nat := 36
abbrev f__law_accepted_right : Nat := 37
abbrev f__law_distances : Nat := 38
abbrev f__law_ring : Nat := 39
abbrev f__law_rings_right : Nat := 40
abbrev f__law_renumbered : Nat := 41
abbrev f__law_bits : Nat := 42
abbrev f__law_consolidated_right : Nat := 43
abbrev f__law_right : Nat := 44
abbrev f_law : Nat := 45
def t_is_integer (Φ : Ph) : CS := sSeq (disow [] (sRet (cAndV (c1 (isiD ["int"]) (cVarB 0)) (cNotV (c1 (isiD ["bool"]) (cVarB 0)))))) (sNx)
abbrev N_is_integer : List Str := ["value"]
abbrev P_is_integer : List Str := ["value"]
theorem e_is_integer (k : Nat) (ds : List PyData) : Ev (k + 1) f_is_integer ds = runC (t_is_integer (Ev k)) N_is_integer P_is_integer ds := by kernel_rfl
def b_is_numbers_0 (Φ : Ph) : CS := sSeq (sIf (cOrT (cNotT (cTst (cCall Φ f_is_integer [cVarB 3] [some 3]))) (cNotT (cTst (cCh leD ltD (cVarB 2) (cVarB 3) (cVarB 1))))) (sSeq (disow [] (sRet (cK (.bool false)))) (sNx)) (sNx)) (sSeq (disow [] (sSet 2 true (c2 addD (cVarB 3) (cK (.int 1))))) (sNx))
def t_is_numbers (Φ : Ph) : CS := sSeq (sIf (cNotT (cTst (c1 (isiD ["tuple"]) (cVarB 0)))) (sSeq (disow [] (sRet (cK (.bool false)))) (sNx)) (sNx)) (sSeq (disow [] (sSet 2 false (cK (.int 0)))) (sSeq (disow [0] (sFor (cItE (cVar 0)) (.one 3) (b_is_numbers_0 Φ))) (sSeq (disow [] (sRet (cK (.bool true)))) (sNx))))
abbrev N_is_numbers : List Str := ["value", "limit", "least", "number"]
abbrev P_is_numbers : List Str := ["value", "limit"]
theorem e_is_numbers (k : Nat) (ds : List PyData) : Ev (k + 1) f_is_numbers ds = runC (t_is_numbers (Ev k)) N_is_numbers P_is_numbers ds := by kernel_rfl
def b_distinct_0 (Φ : Ph) : CS := sSeq (sIf (cOrT (cTst (c2 eqD (c1 lenD (cVarB 1)) (cK (.int 0)))) (cTst (c2 neD (c2 ixD (cVarB 1) (c1 negD (cK (.int 1)))) (cVarB 2)))) (sSeq (disow [2] (sApp 1 (cVar 2))) (sNx)) (sNx)) (sNx)
def t_distinct (Φ : Ph) : CS := sSeq (disow [] (sSet 1 true (cLst []))) (sSeq (disow [] (sFor (cItE (c1 sortD (c1 listC (cVarB 0)))) (.one 2) (b_distinct_0 Φ))) (sSeq (disow [] (sRet (c1 tupleD (cVarB 1)))) (sNx)))
abbrev N_distinct : List Str := ["items", "found", "item"]
abbrev P_distinct : List Str := ["items"]
theorem e_distinct (k : Nat) (ds : List PyData) : Ev (k + 1) f_distinct ds = runC (t_distinct (Ev k)) N_distinct P_distinct ds := by kernel_rfl
def t_merge (Φ : Ph) : CS := sSeq (disow [] (sRet (cCall Φ f_distinct [c2 addD (c1 listC (cVarB 0)) (c1 listC (cVarB 1))] [none]))) (sNx)
abbrev N_merge : List Str := ["first", "second"]
abbrev P_merge : List Str := ["first", "second"]
theorem e_merge (k : Nat) (ds : List PyData) : Ev (k + 1) f_merge ds = runC (t_merge (Ev k)) N_merge P_merge ds := by kernel_rfl
def q_new_numbers_0 (Φ : Ph) : CT := cTst (c2 geD (c2 ixD (cVarB 1) (cVarB 2)) (cK (.int 0)))
def c_new_numbers_0 (Φ : Ph) : CE := c2 ixD (cVarB 1) (cVarB 2)
def t_new_numbers (Φ : Ph) : CS := sSeq (sIf (cTst (c2 isD (cVarB 0) (cK .none))) (sSeq (disow [] (sRet (cK .none))) (sNx)) (sNx)) (sSeq (disow [] (sRet (cCall Φ f_merge [cComp (cItE (cVarB 0)) [2] (.one 2) (q_new_numbers_0 Φ) (c_new_numbers_0 Φ), cTup []] [none, none]))) (sNx))
abbrev N_new_numbers : List Str := ["numbers", "table", "number"]
abbrev P_new_numbers : List Str := ["numbers", "table"]
theorem e_new_numbers (k : Nat) (ds : List PyData) : Ev (k + 1) f_new_numbers ds = runC (t_new_numbers (Ev k)) N_new_numbers P_new_numbers ds := by kernel_rfl
def t_relinked (Φ : Ph) : CS := sSeq (disow [] (sSet 2 false (cCall Φ f_new_numbers [c2 ixD (cVarB 0) (cK (.int 4)), cVarB 1] [none, some 1]))) (sSeq (disow [] (sSet 3 false (cCall Φ f_new_numbers [c2 ixD (cVarB 0) (cK (.int 5)), cVarB 1] [none, some 1]))) (sSeq (disow [2, 3] (sRet (c2 addD (cSl (cVarB 0) none (some (cK (.int 4)))) (cTup [cVar 2, cVar 3])))) (sNx)))
abbrev N_relinked : List Str := ["clause", "table", "done", "lapsed"]
abbrev P_relinked : List Str := ["clause", "table"]
theorem e_relinked (k : Nat) (ds : List PyData) : Ev (k + 1) f_relinked ds = runC (t_relinked (Ev k)) N_relinked P_relinked ds := by kernel_rfl
def t_size (Φ : Ph) : CS := sSeq (disow [] (sRet (c1 lenD (c2 ixD (cVarB 0) (cK (.int 0)))))) (sNx)
abbrev N_size : List Str := ["contract"]
abbrev P_size : List Str := ["contract"]
theorem e_size (k : Nat) (ds : List PyData) : Ev (k + 1) f_size ds = runC (t_size (Ev k)) N_size P_size ds := by kernel_rfl
def b_renumbered_0 (Φ : Ph) : CS := sSeq (disow [3] (sPut 2 (c2 ixD (cVarB 1) (cVarB 3)) (cVar 3))) (sNx)
def c_renumbered_0 (Φ : Ph) : CE := cCall Φ f_relinked [c2 ixD (c2 ixD (cVarB 0) (cK (.int 0))) (cVarB 5), c1 tupleD (cVarB 2)] [none, none]
def q_renumbered_0 (Φ : Ph) : CT := cTst (c2 geD (c2 ixD (cVarB 2) (cVarB 5)) (cK (.int 0)))
def c_renumbered_1 (Φ : Ph) : CE := c2 ixD (cVarB 2) (cVarB 5)
def t_renumbered (Φ : Ph) : CS := sSeq (disow [] (sSet 2 true (c2 mulD (cLst [c1 negD (cK (.int 1))]) (cCall Φ f_size [cVarB 0] [some 0])))) (sSeq (disow [] (sFor (cRange1 (c1 lenD (cVarB 1))) (.one 3) (b_renumbered_0 Φ))) (sSeq (disow [] (sSet 4 false (c1 tupleD (cComp (cItE (cVarB 1)) [5] (.one 5) (tYesC) (c_renumbered_0 Φ))))) (sSeq (disow [] (sSet 6 false (cCall Φ f_distinct [cComp (cItE (c2 ixD (cVarB 0) (cK (.int 1)))) [5] (.one 5) (q_renumbered_0 Φ) (c_renumbered_1 Φ)] [none]))) (sSeq (disow [4, 6] (sRet (cTup [cVar 4, cVar 6]))) (sNx)))))
abbrev N_renumbered : List Str := ["contract", "numbers", "table", "index", "clauses", "number", "opening"]
abbrev P_renumbered : List Str := ["contract", "numbers"]
theorem e_renumbered (k : Nat) (ds : List PyData) : Ev (k + 1) f_renumbered ds = runC (t_renumbered (Ev k)) N_renumbered P_renumbered ds := by kernel_rfl
def t_kept_only (Φ : Ph) : CS := sSeq (sIf (cNotT (cTst (cCall Φ f_is_numbers [cVarB 1, cCall Φ f_size [cVarB 0] [some 0]] [some 1, none]))) (sSeq (disow [] (sRaise G "InvalidOrder" [cK (.str "not numbers of clauses")])) (sNx)) (sNx)) (sSeq (disow [] (sRet (cCall Φ f_renumbered [cVarB 0, cVarB 1] [some 0, some 1]))) (sNx))
abbrev N_kept_only : List Str := ["contract", "numbers"]
abbrev P_kept_only : List Str := ["contract", "numbers"]
theorem e_kept_only (k : Nat) (ds : List PyData) : Ev (k + 1) f_kept_only ds = runC (t_kept_only (Ev k)) N_kept_only P_kept_only ds := by kernel_rfl
def q_struck_all_0 (Φ : Ph) : CT := cTst (c2 notInD (cVarB 2) (cVarB 1))
def c_struck_all_0 (Φ : Ph) : CE := cVar 2
def t_struck_all (Φ : Ph) : CS := sSeq (sIf (cNotT (cTst (cCall Φ f_is_numbers [cVarB 1, cCall Φ f_size [cVarB 0] [some 0]] [some 1, none]))) (sSeq (disow [] (sRaise G "InvalidOrder" [cK (.str "not numbers of clauses")])) (sNx)) (sNx)) (sSeq (disow [2] (sRet (cCall Φ f_kept_only [cVarB 0, c1 tupleD (cComp (cRange1 (cCall Φ f_size [cVarB 0] [some 0])) [2] (.one 2) (q_struck_all_0 Φ) (c_struck_all_0 Φ))] [some 0, none]))) (sNx))
abbrev N_struck_all : List Str := ["contract", "numbers", "number"]
abbrev P_struck_all : List Str := ["contract", "numbers"]
theorem e_struck_all (k : Nat) (ds : List PyData) : Ev (k + 1) f_struck_all ds = runC (t_struck_all (Ev k)) N_struck_all P_struck_all ds := by kernel_rfl
def b_is_override_0 (Φ : Ph) : CS := sSeq (sIf (cOrT (cNotT (cTst (cCall Φ f_is_integer [cVarB 2] [some 2]))) (cNotT (cTst (cCh leD ltD (cK (.int 0)) (cVarB 2) (cVarB 1))))) (sSeq (disow [] (sRet (cK (.bool false)))) (sNx)) (sNx)) (sNx)
def t_is_override (Φ : Ph) : CS := sSeq (sIf (cOrT (cNotT (cTst (c1 (isiD ["tuple"]) (cVarB 0)))) (cTst (c2 neD (c1 lenD (cVarB 0)) (cK (.int 2))))) (sSeq (disow [] (sRet (cK (.bool false)))) (sNx)) (sNx)) (sSeq (disow [0] (sFor (cItE (cVar 0)) (.one 2) (b_is_override_0 Φ))) (sSeq (disow [] (sRet (c2 neD (c2 ixD (cVarB 0) (cK (.int 0))) (c2 ixD (cVarB 0) (cK (.int 1)))))) (sNx)))
abbrev N_is_override : List Str := ["value", "count", "number"]
abbrev P_is_override : List Str := ["value", "count"]
theorem e_is_override (k : Nat) (ds : List PyData) : Ev (k + 1) f_is_override ds = runC (t_is_override (Ev k)) N_is_override P_is_override ds := by kernel_rfl
def b_make_overrides_0 (Φ : Ph) : CS := sSeq (sIf (cNotT (cTst (cCall Φ f_is_override [c2 ixD (cVarB 0) (cVarB 2), cVarB 1] [none, some 1]))) (sSeq (disow [2] (sRaise G "InvalidOverrides" [cVar 2])) (sNx)) (sNx)) (sNx)
def t_make_overrides (Φ : Ph) : CS := sSeq (sIf (cNotT (cTst (c1 (isiD ["list", "tuple"]) (cVarB 0)))) (sSeq (disow [] (sRaise G "InvalidOverrides" [c1 negD (cK (.int 1))])) (sNx)) (sNx)) (sSeq (disow [] (sFor (cRange1 (c1 lenD (cVarB 0))) (.one 2) (b_make_overrides_0 Φ))) (sSeq (disow [] (sRet (cCall Φ f_distinct [cVarB 0] [some 0]))) (sNx)))
abbrev N_make_overrides : List Str := ["rows", "count", "index"]
abbrev P_make_overrides : List Str := ["rows", "count"]
theorem e_make_overrides (k : Nat) (ds : List PyData) : Ev (k + 1) f_make_overrides ds = runC (t_make_overrides (Ev k)) N_make_overrides P_make_overrides ds := by kernel_rfl
def b_is_overrides_0 (Φ : Ph) : CS := sSeq (sIf (cNotT (cTst (cCall Φ f_is_override [c2 ixD (cVarB 0) (cVarB 2), cVarB 1] [none, some 1]))) (sSeq (disow [] (sRet (cK (.bool false)))) (sNx)) (sNx)) (sSeq (sIf (cAndT (cTst (c2 gtD (cVarB 2) (cK (.int 0)))) (cNotT (cTst (c2 ltD (c2 ixD (cVarB 0) (c2 subD (cVarB 2) (cK (.int 1)))) (c2 ixD (cVarB 0) (cVarB 2)))))) (sSeq (disow [] (sRet (cK (.bool false)))) (sNx)) (sNx)) (sNx))
def t_is_overrides (Φ : Ph) : CS := sSeq (sIf (cNotT (cTst (c1 (isiD ["tuple"]) (cVarB 0)))) (sSeq (disow [] (sRet (cK (.bool false)))) (sNx)) (sNx)) (sSeq (disow [] (sFor (cRange1 (c1 lenD (cVarB 0))) (.one 2) (b_is_overrides_0 Φ))) (sSeq (disow [] (sRet (cK (.bool true)))) (sNx)))
abbrev N_is_overrides : List Str := ["value", "count", "index"]
abbrev P_is_overrides : List Str := ["value", "count"]
theorem e_is_overrides (k : Nat) (ds : List PyData) : Ev (k + 1) f_is_overrides ds = runC (t_is_overrides (Ev k)) N_is_overrides P_is_overrides ds := by kernel_rfl
def q_overriders_0 (Φ : Ph) : CT := cTst (c2 eqD (cVarB 3) (cVarB 1))
def c_overriders_0 (Φ : Ph) : CE := cVar 2
def t_overriders (Φ : Ph) : CS := sSeq (disow [2] (sRet (c1 tupleD (cComp (cItE (cVarB 0)) [2, 3] (.tup [2, 3]) (q_overriders_0 Φ) (c_overriders_0 Φ))))) (sNx)
abbrev N_overriders : List Str := ["overrides", "number", "upper", "lower"]
abbrev P_overriders : List Str := ["overrides", "number"]
theorem e_overriders (k : Nat) (ds : List PyData) : Ev (k + 1) f_overriders ds = runC (t_overriders (Ev k)) N_overriders P_overriders ds := by kernel_rfl
def q_label_behind_0 (Φ : Ph) : CT := cTst (c2 inD (cVarB 3) (cVarB 1))
def c_label_behind_0 (Φ : Ph) : CE := c2 ixD (c2 ixD (cVarB 1) (cVarB 3)) (cK (.int 0))
def t_label_behind (Φ : Ph) : CS := sSeq (disow [] (sSet 2 true (cComp (cItE (cVarB 0)) [3] (.one 3) (q_label_behind_0 Φ) (c_label_behind_0 Φ)))) (sSeq (sIf (cTst (c2 inD (cK (.str "stands")) (cVarB 2))) (sSeq (disow [] (sRet (cK (.str "falls")))) (sNx)) (sNx)) (sSeq (sIf (cTst (c2 eqD (c1 lenD (cVarB 2)) (c1 lenD (cVarB 0)))) (sSeq (disow [] (sRet (cK (.str "stands")))) (sNx)) (sNx)) (sSeq (disow [] (sRet (cK (.str "")))) (sNx))))
abbrev N_label_behind : List Str := ["uppers", "found", "labels", "upper"]
abbrev P_label_behind : List Str := ["uppers", "found"]
theorem e_label_behind (k : Nat) (ds : List PyData) : Ev (k + 1) f_label_behind ds = runC (t_label_behind (Ev k)) N_label_behind P_label_behind ds := by kernel_rfl
def c_settle_0 (Φ : Ph) : CE := cCall Φ f_overriders [cVarB 1, cVarB 3] [some 1, some 3]
def b_settle_0 (Φ : Ph) : CS := sSeq (sIf (cTst (c2 notInD (cVarB 3) (cVarB 4))) (sSeq (disow [] (sSet 7 false (cCall Φ f_label_behind [c2 ixD (cVarB 2) (cVarB 3), cVarB 4] [none, some 4]))) (sSeq (sIf (cTst (c2 neD (cVarB 7) (cK (.str "")))) (sSeq (disow [3, 7] (sApp 6 (cTup [cVar 3, cVar 7]))) (sNx)) (sNx)) (sNx))) (sNx)) (sNx)
def b_settle_1 (Φ : Ph) : CS := sSeq (disow [7, 5] (sPut 4 (cVarB 3) (cTup [cVar 7, cVar 5]))) (sNx)
def b_settle_2 (Φ : Ph) : CS := sSeq (disow [] (sSet 6 true (cLst []))) (sSeq (disow [] (sFor (cRange1 (cVarB 0)) (.one 3) (b_settle_0 Φ))) (sSeq (disow [6] (sFor (cItE (cVar 6)) (.tup [3, 7]) (b_settle_1 Φ))) (sNx)))
def c_settle_1 (Φ : Ph) : CE := cGet2 (cVarB 4) (cVarB 3) (cTup [cK (.str "unsettled"), cK (.int 0)])
def t_settle (Φ : Ph) : CS := sSeq (disow [] (sSet 2 true (cComp (cRange1 (cVarB 0)) [3] (.one 3) (tYesC) (c_settle_0 Φ)))) (sSeq (disow [] (sSet 4 true (cK (.dict [])))) (sSeq (disow [] (sFor (cRange2 (cK (.int 1)) (c2 addD (cVarB 0) (cK (.int 1)))) (.one 5) (b_settle_2 Φ))) (sSeq (disow [] (sRet (cComp (cRange1 (cVarB 0)) [3] (.one 3) (tYesC) (c_settle_1 Φ)))) (sNx))))
abbrev N_settle : List Str := ["count", "overrides", "above", "number", "found", "rank", "news", "label"]
abbrev P_settle : List Str := ["count", "overrides"]
theorem e_settle (k : Nat) (ds : List PyData) : Ev (k + 1) f_settle ds = runC (t_settle (Ev k)) N_settle P_settle ds := by kernel_rfl
def t_is_row (Φ : Ph) : CS := sSeq (sIf (cOrT (cNotT (cTst (c1 (isiD ["tuple"]) (cVarB 0)))) (cTst (c2 neD (c1 lenD (cVarB 0)) (cK (.int 2))))) (sSeq (disow [] (sRet (cK (.bool false)))) (sNx)) (sNx)) (sSeq (disow [] (sRet (cAndV (c1 (isiD ["str"]) (c2 ixD (cVarB 0) (cK (.int 0)))) (cAndV (c2 inD (c2 ixD (cVarB 0) (cK (.int 0))) (cK (.tuple [(.str "stands"), (.str "falls"), (.str "unsettled")]))) (cCall Φ f_is_integer [c2 ixD (cVarB 0) (cK (.int 1))] [none]))))) (sNx))
abbrev N_is_row : List Str := ["value"]
abbrev P_is_row : List Str := ["value"]
theorem e_is_row (k : Nat) (ds : List PyData) : Ev (k + 1) f_is_row ds = runC (t_is_row (Ev k)) N_is_row P_is_row ds := by kernel_rfl
def c_is_right_0 (Φ : Ph) : CE := c2 ixD (cVarB 5) (cK (.int 0))
def q_is_right_0 (Φ : Ph) : CT := cTst (c2 ltD (c2 ixD (cVarB 5) (cK (.int 1))) (cVarB 3))
def c_is_right_1 (Φ : Ph) : CE := c2 ixD (cVarB 5) (cK (.int 0))
def t_is_right (Φ : Ph) : CS := sSeq (disow [0] (sTg (.tup [2, 3]) (cVar 0))) (sSeq (sIf (cTst (c2 eqD (cVarB 2) (cK (.str "unsettled")))) (sSeq (disow [] (sSet 4 true (cComp (cItE (cVarB 1)) [5] (.one 5) (tYesC) (c_is_right_0 Φ)))) (sSeq (disow [] (sRet (cAndV (c2 eqD (cVarB 3) (cK (.int 0))) (cAndV (c2 notInD (cK (.str "stands")) (cVarB 4)) (c2 inD (cK (.str "unsettled")) (cVarB 4)))))) (sNx))) (sNx)) (sSeq (sIf (cTst (c2 ltD (cVarB 3) (cK (.int 1)))) (sSeq (disow [] (sRet (cK (.bool false)))) (sNx)) (sNx)) (sSeq (disow [] (sSet 6 true (cComp (cItE (cVarB 1)) [5] (.one 5) (q_is_right_0 Φ) (c_is_right_1 Φ)))) (sSeq (sIf (cTst (c2 eqD (cVarB 2) (cK (.str "falls")))) (sSeq (disow [] (sRet (c2 inD (cK (.str "stands")) (cVarB 6)))) (sNx)) (sNx)) (sSeq (disow [] (sRet (c2 eqD (cMe countD (cVarB 6) (cK (.str "falls"))) (c1 lenD (cVarB 1))))) (sNx))))))
abbrev N_is_right : List Str := ["row", "above", "label", "rank", "labels", "upper", "smaller"]
abbrev P_is_right : List Str := ["row", "above"]
theorem e_is_right (k : Nat) (ds : List PyData) : Ev (k + 1) f_is_right ds = runC (t_is_right (Ev k)) N_is_right P_is_right ds := by kernel_rfl
def b_is_settled_0 (Φ : Ph) : CS := sSeq (sIf (cNotT (cTst (cCall Φ f_is_row [cVarB 3] [some 3]))) (sSeq (disow [] (sRet (cK (.bool false)))) (sNx)) (sNx)) (sNx)
def c_is_settled_0 (Φ : Ph) : CE := c2 ixD (cVarB 2) (cVarB 5)
def b_is_settled_1 (Φ : Ph) : CS := sSeq (sIf (cNotT (cTst (cCall Φ f_is_right [c2 ixD (cVarB 2) (cVarB 4), cComp (cItE (cCall Φ f_overriders [cVarB 1, cVarB 4] [some 1, some 4])) [5] (.one 5) (tYesC) (c_is_settled_0 Φ)] [none, none]))) (sSeq (disow [] (sRet (cK (.bool false)))) (sNx)) (sNx)) (sNx)
def t_is_settled (Φ : Ph) : CS := sSeq (sIf (cOrT (cNotT (cTst (c1 (isiD ["list"]) (cVarB 2)))) (cTst (c2 neD (c1 lenD (cVarB 2)) (cVarB 0)))) (sSeq (disow [] (sRet (cK (.bool false)))) (sNx)) (sNx)) (sSeq (disow [2] (sFor (cItE (cVar 2)) (.one 3) (b_is_settled_0 Φ))) (sSeq (disow [] (sFor (cRange1 (cVarB 0)) (.one 4) (b_is_settled_1 Φ))) (sSeq (disow [] (sRet (cK (.bool true)))) (sNx))))
abbrev N_is_settled : List Str := ["count", "overrides", "value", "row", "number", "upper"]
abbrev P_is_settled : List Str := ["count", "overrides", "value"]
theorem e_is_settled (k : Nat) (ds : List PyData) : Ev (k + 1) f_is_settled ds = runC (t_is_settled (Ev k)) N_is_settled P_is_settled ds := by kernel_rfl
def q_unsettled_numbers_0 (Φ : Ph) : CT := cTst (c2 eqD (c2 ixD (c2 ixD (cVarB 2) (cVarB 3)) (cK (.int 0))) (cK (.str "unsettled")))
def c_unsettled_numbers_0 (Φ : Ph) : CE := cVar 3
def t_unsettled_numbers (Φ : Ph) : CS := sSeq (disow [] (sSet 2 false (cCall Φ f_settle [cVarB 0, cVarB 1] [some 0, some 1]))) (sSeq (disow [3] (sRet (c1 tupleD (cComp (cRange1 (cVarB 0)) [3] (.one 3) (q_unsettled_numbers_0 Φ) (c_unsettled_numbers_0 Φ))))) (sNx))
abbrev N_unsettled_numbers : List Str := ["count", "overrides", "rows", "number"]
abbrev P_unsettled_numbers : List Str := ["count", "overrides"]
theorem e_unsettled_numbers (k : Nat) (ds : List PyData) : Ev (k + 1) f_unsettled_numbers ds = runC (t_unsettled_numbers (Ev k)) N_unsettled_numbers P_unsettled_numbers ds := by kernel_rfl
def q_ring_from_0 (Φ : Ph) : CT := cAndT (cTst (c2 eqD (cVarB 8) (c2 ixD (cVarB 6) (c1 negD (cK (.int 1)))))) (cTst (c2 inD (cVarB 9) (cVarB 1)))
def c_ring_from_0 (Φ : Ph) : CE := cVar 9
def b_ring_from_0 (Φ : Ph) : CS := sSeq (sIf (cTst (c2 notInD (cVarB 9) (cVarB 4))) (sSeq (disow [] (sPut 4 (cVarB 9) (cK (.bool true)))) (sSeq (disow [9] (sApp 3 (c2 addD (cVarB 6) (cLst [cVar 9])))) (sNx))) (sNx)) (sNx)
def t_ring_from (Φ : Ph) : CS := sSeq (disow [2] (sSet 3 true (cLst [cLst [cVar 2]]))) (sSeq (disow [] (sSet 4 true (cDisp [(cVarB 2, cK (.bool true))]))) (sSeq (disow [] (sSet 5 false (cK (.int 0)))) (sSeq (sWhile WN (cTst (c2 ltD (cVarB 5) (c1 lenD (cVarB 3)))) (sSeq (disow [] (sSet 6 false (c2 ixD (cVarB 3) (cVarB 5)))) (sSeq (disow [9] (sSet 7 true (cComp (cItE (cVarB 0)) [8, 9] (.tup [8, 9]) (q_ring_from_0 Φ) (c_ring_from_0 Φ)))) (sSeq (sIf (cTst (c2 inD (cVarB 2) (cVarB 7))) (sSeq (disow [6] (sRet (cVar 6))) (sNx)) (sNx)) (sSeq (disow [7] (sFor (cItE (cVar 7)) (.one 9) (b_ring_from_0 Φ))) (sSeq (disow [] (sSet 5 true (c2 addD (cVarB 5) (cK (.int 1))))) (sNx))))))) (sSeq (disow [] (sRet (cK .none))) (sNx)))))
abbrev N_ring_from : List Str := ["overrides", "among", "number", "chains", "seen", "index", "chain", "lowers", "upper", "lower"]
abbrev P_ring_from : List Str := ["overrides", "among", "number"]
theorem e_ring_from (k : Nat) (ds : List PyData) : Ev (k + 1) f_ring_from ds = runC (t_ring_from (Ev k)) N_ring_from P_ring_from ds := by kernel_rfl
def b_ring_of_0 (Φ : Ph) : CS := sSeq (disow [] (sSet 5 false (cCall Φ f_ring_from [cVarB 1, cVarB 2, cVarB 4] [some 1, some 2, some 4]))) (sSeq (sIf (cAndT (cTst (c2 isntD (cVarB 5) (cK .none))) (cOrT (cTst (c2 isD (cVarB 3) (cK .none))) (cTst (c2 ltD (c1 lenD (cVarB 5)) (c1 lenD (cVarB 3)))))) (sSeq (disow [5] (sSet 3 false (cVar 5))) (sNx)) (sNx)) (sNx))
def t_ring_of (Φ : Ph) : CS := sSeq (disow [] (sSet 2 false (cCall Φ f_unsettled_numbers [cVarB 0, cVarB 1] [some 0, some 1]))) (sSeq (disow [] (sSet 3 false (cK .none))) (sSeq (disow [2] (sFor (cItE (cVar 2)) (.one 4) (b_ring_of_0 Φ))) (sSeq (disow [3] (sRet (cVar 3))) (sNx))))
abbrev N_ring_of : List Str := ["count", "overrides", "among", "best", "number", "found"]
abbrev P_ring_of : List Str := ["count", "overrides"]
theorem e_ring_of (k : Nat) (ds : List PyData) : Ev (k + 1) f_ring_of ds = runC (t_ring_of (Ev k)) N_ring_of P_ring_of ds := by kernel_rfl
def b_is_override_ring_0 (Φ : Ph) : CS := sSeq (sIf (cOrT (cNotT (cTst (cCall Φ f_is_integer [cVarB 4] [some 4]))) (cTst (c2 notInD (cVarB 4) (cVarB 3)))) (sSeq (disow [] (sRet (cK (.bool false)))) (sNx)) (sNx)) (sNx)
def b_is_override_ring_1 (Φ : Ph) : CS := sSeq (sIf (cTst (c2 notInD (cTup [c2 ixD (cVarB 2) (c2 subD (cVarB 5) (cK (.int 1))), c2 ixD (cVarB 2) (cVarB 5)]) (cVarB 1))) (sSeq (disow [] (sRet (cK (.bool false)))) (sNx)) (sNx)) (sNx)
def t_is_override_ring (Φ : Ph) : CS := sSeq (sIf (cOrT (cNotT (cTst (c1 (isiD ["list"]) (cVarB 2)))) (cTst (c2 eqD (c1 lenD (cVarB 2)) (cK (.int 0))))) (sSeq (disow [] (sRet (cK (.bool false)))) (sNx)) (sNx)) (sSeq (disow [] (sSet 3 false (cCall Φ f_unsettled_numbers [cVarB 0, cVarB 1] [some 0, some 1]))) (sSeq (disow [2] (sFor (cItE (cVar 2)) (.one 4) (b_is_override_ring_0 Φ))) (sSeq (sIf (cTst (c2 neD (c1 lenD (cCall Φ f_distinct [cVarB 2] [some 2])) (c1 lenD (cVarB 2)))) (sSeq (disow [] (sRet (cK (.bool false)))) (sNx)) (sNx)) (sSeq (disow [] (sFor (cRange1 (c1 lenD (cVarB 2))) (.one 5) (b_is_override_ring_1 Φ))) (sSeq (disow [] (sRet (cK (.bool true)))) (sNx))))))
abbrev N_is_override_ring : List Str := ["count", "overrides", "value", "among", "number", "index"]
abbrev P_is_override_ring : List Str := ["count", "overrides", "value"]
theorem e_is_override_ring (k : Nat) (ds : List PyData) : Ev (k + 1) f_is_override_ring ds = runC (t_is_override_ring (Ev k)) N_is_override_ring P_is_override_ring ds := by kernel_rfl
def b_consolidated_0 (Φ : Ph) : CS := sSeq (sIf (cTst (c2 eqD (c2 ixD (c2 ixD (cVarB 2) (cVarB 3)) (cK (.int 0))) (cK (.str "unsettled")))) (sSeq (disow [3] (sRaise G "Unsettled" [cVar 3])) (sNx)) (sNx)) (sNx)
def q_consolidated_0 (Φ : Ph) : CT := cTst (c2 eqD (c2 ixD (c2 ixD (cVarB 2) (cVarB 3)) (cK (.int 0))) (cK (.str "falls")))
def c_consolidated_0 (Φ : Ph) : CE := cVar 3
def t_consolidated (Φ : Ph) : CS := sSeq (disow [] (sSet 2 false (cCall Φ f_settle [cCall Φ f_size [cVarB 0] [some 0], cVarB 1] [none, some 1]))) (sSeq (disow [] (sFor (cRange1 (c1 lenD (cVarB 2))) (.one 3) (b_consolidated_0 Φ))) (sSeq (disow [3] (sRet (cCall Φ f_struck_all [cVarB 0, c1 tupleD (cComp (cRange1 (c1 lenD (cVarB 2))) [3] (.one 3) (q_consolidated_0 Φ) (c_consolidated_0 Φ))] [some 0, none]))) (sNx)))
abbrev N_consolidated : List Str := ["contract", "overrides", "rows", "number"]
abbrev P_consolidated : List Str := ["contract", "overrides"]
theorem e_consolidated (k : Nat) (ds : List PyData) : Ev (k + 1) f_consolidated ds = runC (t_consolidated (Ev k)) N_consolidated P_consolidated ds := by kernel_rfl
def b__law_cell_0 (Φ : Ph) : CS := sSeq (disow [] (sSet 2 true (c2 modD (c1 intD (c2 addD (c2 mulI (cVar 2) (cK (.int 48271))) (cVarB 3))) (cK (.int 2147483647))))) (sNx)
def t__law_cell (Φ : Ph) : CS := sSeq (sIf (cTst (c2 ltD (cVarB 1) (c1 lenD (cVarB 0)))) (sSeq (disow [] (sRet (c1 intD (c2 ixD (cVarB 0) (cVarB 1))))) (sNx)) (sNx)) (sSeq (disow [] (sSet 2 true (c2 addD (c2 mulI (cK (.int 7)) (cVarB 1)) (cK (.int 11))))) (sSeq (disow [0] (sFor (cItE (cVar 0)) (.one 3) (b__law_cell_0 Φ))) (sSeq (disow [2] (sRet (cVar 2))) (sNx))))
abbrev N__law_cell : List Str := ["script", "k", "mixed", "cell"]
abbrev P__law_cell : List Str := ["script", "k"]
theorem e__law_cell (k : Nat) (ds : List PyData) : Ev (k + 1) f__law_cell ds = runC (t__law_cell (Ev k)) N__law_cell P__law_cell ds := by kernel_rfl
def b__law_draws_0 (Φ : Ph) : CS := sSeq (disow [3] (sSet 5 false (cVar 3))) (sSeq (sIf (cTst (c2 ltD (cVarB 0) (c2 powD (cK (.int 10)) (cK (.int 18))))) (sSeq (disow [] (sSet 5 true (c2 modD (c1 intD (c2 addD (c2 mulD (c2 modD (c1 intD (c2 addD (c2 addD (c2 mulI (cVar 0) (cK (.int 48271))) (c2 mulI (cVar 4) (cK (.int 69621)))) (cK (.int 13)))) (cK (.int 2147483647))) (cK (.int 16807))) (c2 mulI (cVar 4) (cVarB 4)))) (cK (.int 998244353))))) (sNx)) (sSeq (disow [] (sSet 3 true (c2 fdivD (cVarB 3) (c2 ixD (cVarB 1) (cVarB 4))))) (sNx))) (sSeq (disow [] (sApp 2 (c2 modD (c1 intD (cVarB 5)) (c2 ixD (cVarB 1) (cVarB 4))))) (sNx)))
def t__law_draws (Φ : Ph) : CS := sSeq (disow [] (sSet 2 true (cLst []))) (sSeq (disow [] (sSet 3 false (c1 intD (cVarB 0)))) (sSeq (disow [] (sFor (cRange1 (c1 lenD (cVarB 1))) (.one 4) (b__law_draws_0 Φ))) (sSeq (disow [2] (sRet (cVar 2))) (sNx))))
abbrev N__law_draws : List Str := ["cell", "limits", "found", "rest", "k", "part"]
abbrev P__law_draws : List Str := ["cell", "limits"]
theorem e__law_draws (k : Nat) (ds : List PyData) : Ev (k + 1) f__law_draws ds = runC (t__law_draws (Ev k)) N__law_draws P__law_draws ds := by kernel_rfl
def b__law_equal_0 (Φ : Ph) : CS := sSeq (sIf (cNotT (cTst (cCall Φ f__law_equal [c2 ixD (cVarB 0) (cVarB 2), c2 ixD (cVarB 1) (cVarB 2)] [none, none]))) (sSeq (disow [] (sRet (cK (.bool false)))) (sNx)) (sNx)) (sNx)
def t__law_equal (Φ : Ph) : CS := sSeq (sIf (cTst (c1 (isiD ["tuple", "list"]) (cVarB 1))) (sSeq (sIf (cOrT (cTst (c2 neD (c1 (isiD ["tuple"]) (cVarB 0)) (c1 (isiD ["tuple"]) (cVarB 1)))) (cTst (c2 neD (c1 (isiD ["list"]) (cVarB 0)) (c1 (isiD ["list"]) (cVarB 1))))) (sSeq (disow [] (sRet (cK (.bool false)))) (sNx)) (sNx)) (sSeq (sIf (cTst (c2 neD (c1 lenD (cVarB 0)) (c1 lenD (cVarB 1)))) (sSeq (disow [] (sRet (cK (.bool false)))) (sNx)) (sNx)) (sSeq (disow [] (sFor (cRange1 (c1 lenD (cVarB 1))) (.one 2) (b__law_equal_0 Φ))) (sSeq (disow [] (sRet (cK (.bool true)))) (sNx))))) (sNx)) (sSeq (sIf (cTst (c1 (isiD ["int"]) (cVarB 1))) (sSeq (disow [] (sRet (cAndV (c1 (isiD ["int"]) (cVarB 0)) (cAndV (c2 eqD (c1 (isiD ["bool"]) (cVarB 0)) (c1 (isiD ["bool"]) (cVarB 1))) (c2 eqD (cVarB 0) (cVarB 1)))))) (sNx)) (sNx)) (sSeq (sIf (cTst (c2 isD (cVarB 1) (cK .none))) (sSeq (disow [] (sRet (c2 isD (cVarB 0) (cK .none)))) (sNx)) (sNx)) (sSeq (disow [] (sRet (cAndV (c1 (isiD ["str"]) (cVarB 0)) (c2 eqD (cVarB 0) (cVarB 1))))) (sNx))))
abbrev N__law_equal : List Str := ["value", "due", "k"]
abbrev P__law_equal : List Str := ["value", "due"]
theorem e__law_equal (k : Nat) (ds : List PyData) : Ev (k + 1) f__law_equal ds = runC (t__law_equal (Ev k)) N__law_equal P__law_equal ds := by kernel_rfl
def b__law_drawn_rows_0 (Φ : Ph) : CS := sSeq (disow [] (sSet 5 false (c2 ixD (cVarB 2) (c2 addD (cK (.int 1)) (c2 mulI (cK (.int 2)) (cVarB 4)))))) (sSeq (disow [] (sSet 6 false (c2 ixD (cVarB 2) (c2 addD (cK (.int 2)) (c2 mulI (cK (.int 2)) (cVarB 4)))))) (sSeq (disow [5] (sApp 3 (cTup [cVar 5, c2 addD (cVarB 6) (c1 intD (c2 geD (cVarB 6) (cVarB 5)))]))) (sNx)))
def t__law_drawn_rows (Φ : Ph) : CS := sSeq (disow [] (sSet 2 false (cCall Φ f__law_draws [cVarB 0, c2 addD (cLst [cK (.int 25)]) (c2 mulD (cLst [c2 max2D (cK (.int 1)) (cVarB 1), c2 max2D (cK (.int 1)) (c2 subD (cVarB 1) (cK (.int 1)))]) (cK (.int 24)))] [some 0, none]))) (sSeq (disow [] (sSet 3 true (cLst []))) (sSeq (sIf (cTst (c2 gtD (cVarB 1) (cK (.int 1)))) (sSeq (disow [] (sFor (cRange1 (c2 ixD (cVarB 2) (cK (.int 0)))) (.one 4) (b__law_drawn_rows_0 Φ))) (sNx)) (sNx)) (sSeq (disow [3] (sRet (cVar 3))) (sNx))))
abbrev N__law_drawn_rows : List Str := ["cell", "count", "draws", "rows", "k", "upper", "lower"]
abbrev P__law_drawn_rows : List Str := ["cell", "count"]
theorem e__law_drawn_rows (k : Nat) (ds : List PyData) : Ev (k + 1) f__law_drawn_rows ds = runC (t__law_drawn_rows (Ev k)) N__law_drawn_rows P__law_drawn_rows ds := by kernel_rfl
def b__law_sorted_0 (Φ : Ph) : CS := sSeq (sIf (cOrT (cTst (c2 eqD (c1 lenD (cVarB 1)) (cK (.int 0)))) (cTst (c2 neD (c2 ixD (cVarB 1) (c1 negD (cK (.int 1)))) (cVarB 2)))) (sSeq (disow [2] (sApp 1 (cVar 2))) (sNx)) (sNx)) (sNx)
def t__law_sorted (Φ : Ph) : CS := sSeq (disow [] (sSet 1 true (cLst []))) (sSeq (disow [] (sFor (cItE (c1 sortD (cVarB 0))) (.one 2) (b__law_sorted_0 Φ))) (sSeq (disow [] (sRet (c1 tupleD (cVarB 1)))) (sNx)))
abbrev N__law_sorted : List Str := ["items", "found", "item"]
abbrev P__law_sorted : List Str := ["items"]
theorem e__law_sorted (k : Nat) (ds : List PyData) : Ev (k + 1) f__law_sorted ds = runC (t__law_sorted (Ev k)) N__law_sorted P__law_sorted ds := by kernel_rfl
def t__law_refused (Φ : Ph) : CS := sSeq (sTry G (sSeq (sDrop (cCall Φ f_make_overrides [cVarB 0, cVarB 1] [some 0, some 1])) (sNx)) [⟨"InvalidOverrides", (some 2), sSeq (sIf (cOrT (cNotT (cTst (cIsE G 2 ["PactError"]))) (cOrT (cNotT (cTst (cIsE G 2 ["ValueError"]))) (cTst (cIsE G 2 ["Unsettled"])))) (sSeq (disow [] (sRet (c1 negD (cK (.int 2))))) (sNx)) (sNx)) (sSeq (sIf (cAndT (cTst (c1 (isiD ["int"]) (cFld G 2 "index"))) (cNotT (cTst (c1 (isiD ["bool"]) (cFld G 2 "index"))))) (sSeq (disow [] (sRet (cFld G 2 "index"))) (sNx)) (sNx)) (sNx))⟩]) (sSeq (disow [] (sRet (c1 negD (cK (.int 2))))) (sNx))
abbrev N__law_refused : List Str := ["rows", "count", "e"]
abbrev P__law_refused : List Str := ["rows", "count"]
theorem e__law_refused (k : Nat) (ds : List PyData) : Ev (k + 1) f__law_refused ds = runC (t__law_refused (Ev k)) N__law_refused P__law_refused ds := by kernel_rfl
def b__law_made_right_0 (Φ : Ph) : CS := sSeq (sIf (cTst (c2 neD (cCall Φ f__law_refused [c2 addD (c2 addD (cSl (cVarB 0) none (some (cVarB 5))) (cLst [c2 ixD (cVarB 6) (cVarB 7), c2 ixD (cVarB 6) (c2 modD (c2 addD (cVarB 7) (cK (.int 3))) (cK (.int 10)))])) (cSl (cVarB 0) (some (cVarB 5)) none), cVarB 1] [none, some 1]) (cVarB 5))) (sSeq (disow [] (sRet (cK (.bool false)))) (sNx)) (sNx)) (sSeq (sIf (cTst (c2 isntD (cCall Φ f_is_overrides [c2 addD (c2 addD (cSl (cVarB 3) none (some (cVarB 5))) (cTup [c2 ixD (cVarB 6) (cVarB 7)])) (cSl (cVarB 3) (some (cVarB 5)) none), cVarB 1] [none, some 1]) (cK (.bool false)))) (sSeq (disow [] (sRet (cK (.bool false)))) (sNx)) (sNx)) (sNx))
def b__law_made_right_1 (Φ : Ph) : CS := sSeq (sIf (cNotT (cTst (cCall Φ f__law_equal [cCall Φ f_is_overrides [cVarB 8, cVarB 1] [some 8, some 1], c2 eqD (cVarB 8) (cTup [])] [none, none]))) (sSeq (disow [] (sRet (cK (.bool false)))) (sNx)) (sNx)) (sNx)
def q__law_made_right_0 (Φ : Ph) : CT := cTst (c2 eqD (c2 ixD (cVarB 10) (cK (.int 1))) (cVarB 9))
def c__law_made_right_0 (Φ : Ph) : CE := c2 ixD (cVarB 10) (cK (.int 0))
def b__law_made_right_2 (Φ : Ph) : CS := sSeq (sIf (cNotT (cTst (cCall Φ f__law_equal [cCall Φ f_overriders [cVarB 3, cVarB 9] [some 3, some 9], c1 tupleD (cComp (cItE (cVarB 3)) [10] (.one 10) (q__law_made_right_0 Φ) (c__law_made_right_0 Φ))] [none, none]))) (sSeq (disow [] (sRet (cK (.bool false)))) (sNx)) (sNx)) (sNx)
def t__law_made_right (Φ : Ph) : CS := sSeq (disow [] (sSet 3 false (cCall Φ f__law_sorted [cVarB 0] [some 0]))) (sSeq (disow [] (sSet 4 true (c1 listC (cVarB 0)))) (sSeq (sIf (cOrT (cNotT (cTst (cCall Φ f__law_equal [cCall Φ f_make_overrides [cVarB 4, cVarB 1] [some 4, some 1], cVarB 3] [none, some 3]))) (cNotT (cTst (cCall Φ f__law_equal [cVarB 4, cVarB 0] [some 4, some 0])))) (sSeq (disow [] (sRet (cK (.bool false)))) (sNx)) (sNx)) (sSeq (sIf (cOrT (cNotT (cTst (cCall Φ f__law_equal [cCall Φ f_make_overrides [c1 tupleD (cVarB 0), cVarB 1] [none, some 1], cVarB 3] [none, some 3]))) (cTst (c2 isntD (cCall Φ f_is_overrides [cVarB 3, cVarB 1] [some 3, some 1]) (cK (.bool true))))) (sSeq (disow [] (sRet (cK (.bool false)))) (sNx)) (sNx)) (sSeq (disow [] (sSet 5 true (c2 modD (c1 intD (c2 ixD (cVarB 2) (cK (.int 0)))) (c2 addD (c1 lenD (cVarB 0)) (cK (.int 1)))))) (sSeq (disow [1] (sSet 6 true (cLst [cTup [cK (.int 0), cK (.int 0)], cTup [cVar 1, cK (.int 0)], cTup [cK (.int 0), c1 negD (cK (.int 1))], cLst [cK (.int 0), cK (.int 1)], cTup [cK (.int 0)], cTup [cK (.int 0), cK (.int 1), cK (.int 2)], cTup [cK (.bool true), cK (.int 0)], cK .none, cTup [cK (.str "0"), cK (.int 1)], cTup [cK (.int 1), cK .none]]))) (sSeq (disow [] (sFor (cRange1 (c1 lenD (cVarB 6))) (.one 7) (b__law_made_right_0 Φ))) (sSeq (disow [] (sFor (cItE (cLst [c1 listC (cVarB 3), c2 addD (cVarB 3) (cSl (cVarB 3) none (some (cK (.int 1)))), c2 addD (c1 revD (cVarB 3)) (cVarB 3), cK .none])) (.one 8) (b__law_made_right_1 Φ))) (sSeq (disow [] (sFor (cRange1 (cVarB 1)) (.one 9) (b__law_made_right_2 Φ))) (sSeq (disow [] (sRet (cAndV (c2 eqD (cCall Φ f__law_refused [cK .none, cVarB 1] [none, some 1]) (c1 negD (cK (.int 1)))) (c2 eqD (cCall Φ f__law_refused [cK (.str "ab"), cVarB 1] [none, some 1]) (c1 negD (cK (.int 1))))))) (sNx))))))))))
abbrev N__law_made_right : List Str := ["rows", "count", "draws", "pairs", "handed", "at", "wrong", "k", "value", "number", "pair"]
abbrev P__law_made_right : List Str := ["rows", "count", "draws"]
theorem e__law_made_right (k : Nat) (ds : List PyData) : Ev (k + 1) f__law_made_right ds = runC (t__law_made_right (Ev k)) N__law_made_right P__law_made_right ds := by kernel_rfl
def q__law_above_0 (Φ : Ph) : CT := cTst (c2 eqD (c2 ixD (cVarB 3) (cK (.int 1))) (cVarB 2))
def c__law_above_0 (Φ : Ph) : CE := c2 ixD (cVarB 1) (c2 ixD (cVarB 3) (cK (.int 0)))
def t__law_above (Φ : Ph) : CS := sSeq (disow [] (sRet (cComp (cItE (cVarB 0)) [3] (.one 3) (q__law_above_0 Φ) (c__law_above_0 Φ)))) (sNx)
abbrev N__law_above : List Str := ["pairs", "value", "number", "pair"]
abbrev P__law_above : List Str := ["pairs", "value", "number"]
theorem e__law_above (k : Nat) (ds : List PyData) : Ev (k + 1) f__law_above ds = runC (t__law_above (Ev k)) N__law_above P__law_above ds := by kernel_rfl
def c__law_rule_0 (Φ : Ph) : CE := c2 ixD (cVarB 3) (cK (.int 0))
def q__law_rule_0 (Φ : Ph) : CT := cTst (c2 eqD (c2 ixD (cVarB 3) (cK (.int 0))) (cK (.str "stands")))
def c__law_rule_1 (Φ : Ph) : CE := c2 ixD (cVarB 3) (cK (.int 1))
def c__law_rule_2 (Φ : Ph) : CE := c2 ixD (cVarB 3) (cK (.int 1))
def t__law_rule (Φ : Ph) : CS := sSeq (disow [] (sSet 2 true (cComp (cItE (cVarB 1)) [3] (.one 3) (tYesC) (c__law_rule_0 Φ)))) (sSeq (disow [] (sSet 4 true (cComp (cItE (cVarB 1)) [3] (.one 3) (q__law_rule_0 Φ) (c__law_rule_1 Φ)))) (sSeq (sIf (cTst (c2 eqD (c2 ixD (cVarB 0) (cK (.int 0))) (cK (.str "stands")))) (sSeq (disow [] (sRet (cAndV (c2 eqD (cMe countD (cVarB 2) (cK (.str "falls"))) (c1 lenD (cVarB 2))) (c2 eqD (c2 ixD (cVarB 0) (cK (.int 1))) (c2 addD (cK (.int 1)) (c1 maxLD (c2 addD (cLst [cK (.int 0)]) (cComp (cItE (cVarB 1)) [3] (.one 3) (tYesC) (c__law_rule_2 Φ))))))))) (sNx)) (sNx)) (sSeq (sIf (cTst (c2 eqD (c2 ixD (cVarB 0) (cK (.int 0))) (cK (.str "falls")))) (sSeq (disow [] (sRet (cAndV (c2 gtD (c1 lenD (cVarB 4)) (cK (.int 0))) (c2 eqD (c2 ixD (cVarB 0) (cK (.int 1))) (c2 addD (cK (.int 1)) (c1 minLD (cVarB 4))))))) (sNx)) (sNx)) (sSeq (disow [] (sRet (cAndV (c2 eqD (c2 ixD (cVarB 0) (cK (.int 0))) (cK (.str "unsettled"))) (cAndV (c2 eqD (c2 ixD (cVarB 0) (cK (.int 1))) (cK (.int 0))) (cAndV (c2 eqD (c1 lenD (cVarB 4)) (cK (.int 0))) (c2 inD (cK (.str "unsettled")) (cVarB 2))))))) (sNx)))))
abbrev N__law_rule : List Str := ["row", "above", "labels", "other", "standing"]
abbrev P__law_rule : List Str := ["row", "above"]
theorem e__law_rule (k : Nat) (ds : List PyData) : Ev (k + 1) f__law_rule ds = runC (t__law_rule (Ev k)) N__law_rule P__law_rule ds := by kernel_rfl
def b__law_is_settlement_0 (Φ : Ph) : CS := sSeq (sIf (cOrT (cNotT (cTst (c1 (isiD ["tuple"]) (cVarB 3)))) (cOrT (cTst (c2 neD (c1 lenD (cVarB 3)) (cK (.int 2)))) (cNotT (cTst (c1 (isiD ["str"]) (c2 ixD (cVarB 3) (cK (.int 0)))))))) (sSeq (disow [] (sRet (cK (.bool false)))) (sNx)) (sNx)) (sSeq (sIf (cOrT (cNotT (cTst (c1 (isiD ["int"]) (c2 ixD (cVarB 3) (cK (.int 1)))))) (cOrT (cTst (c1 (isiD ["bool"]) (c2 ixD (cVarB 3) (cK (.int 1))))) (cTst (c2 ltD (c2 ixD (cVarB 3) (cK (.int 1))) (cK (.int 0)))))) (sSeq (disow [] (sRet (cK (.bool false)))) (sNx)) (sNx)) (sNx))
def b__law_is_settlement_1 (Φ : Ph) : CS := sSeq (sIf (cNotT (cTst (cCall Φ f__law_rule [c2 ixD (cVarB 2) (cVarB 4), cCall Φ f__law_above [cVarB 1, cVarB 2, cVarB 4] [some 1, some 2, some 4]] [none, none]))) (sSeq (disow [] (sRet (cK (.bool false)))) (sNx)) (sNx)) (sNx)
def t__law_is_settlement (Φ : Ph) : CS := sSeq (sIf (cOrT (cNotT (cTst (c1 (isiD ["list"]) (cVarB 2)))) (cTst (c2 neD (c1 lenD (cVarB 2)) (cVarB 0)))) (sSeq (disow [] (sRet (cK (.bool false)))) (sNx)) (sNx)) (sSeq (disow [2] (sFor (cItE (cVar 2)) (.one 3) (b__law_is_settlement_0 Φ))) (sSeq (disow [] (sFor (cRange1 (cVarB 0)) (.one 4) (b__law_is_settlement_1 Φ))) (sSeq (disow [] (sRet (cK (.bool true)))) (sNx))))
abbrev N__law_is_settlement : List Str := ["count", "pairs", "value", "row", "number"]
abbrev P__law_is_settlement : List Str := ["count", "pairs", "value"]
theorem e__law_is_settlement (k : Nat) (ds : List PyData) : Ev (k + 1) f__law_is_settlement ds = runC (t__law_is_settlement (Ev k)) N__law_is_settlement P__law_is_settlement ds := by kernel_rfl
def b__law_raised_0 (Φ : Ph) : CS := sSeq (disow [] (sSet 5 true (c2 addD (c2 mulI (c2 ixD (cVarB 4) (cK (.int 1))) (cVarB 1)) (cVarB 2)))) (sSeq (sIf (cTst (c2 eqD (c2 ixD (cVarB 4) (cK (.int 0))) (cK (.str "unsettled")))) (sSeq (disow [] (sSet 5 false (cK (.int 0)))) (sNx)) (sNx)) (sSeq (disow [5] (sApp 3 (cTup [c2 ixD (cVarB 4) (cK (.int 0)), cVar 5]))) (sNx)))
def t__law_raised (Φ : Ph) : CS := sSeq (disow [] (sSet 3 true (cLst []))) (sSeq (disow [0] (sFor (cItE (cVar 0)) (.one 4) (b__law_raised_0 Φ))) (sSeq (disow [3] (sRet (cVar 3))) (sNx)))
abbrev N__law_raised : List Str := ["value", "factor", "more", "rows", "row", "rank"]
abbrev P__law_raised : List Str := ["value", "factor", "more"]
theorem e__law_raised (k : Nat) (ds : List PyData) : Ev (k + 1) f__law_raised ds = runC (t__law_raised (Ev k)) N__law_raised P__law_raised ds := by kernel_rfl
def c__law_lowest_0 (Φ : Ph) : CE := c2 ixD (cVarB 2) (cK (.int 1))
def q__law_lowest_0 (Φ : Ph) : CT := cTst (c2 eqD (c2 ixD (cVarB 2) (cK (.int 0))) (cK (.str "stands")))
def c__law_lowest_1 (Φ : Ph) : CE := c2 ixD (cVarB 2) (cK (.int 1))
def t__law_lowest (Φ : Ph) : CS := sSeq (sIf (cTst (c2 eqD (c2 ixD (cVarB 0) (cK (.int 0))) (cK (.str "stands")))) (sSeq (disow [] (sRet (c1 maxLD (c2 addD (cLst [cK (.int 0)]) (cComp (cItE (cVarB 1)) [2] (.one 2) (tYesC) (c__law_lowest_0 Φ)))))) (sNx)) (sNx)) (sSeq (sIf (cTst (c2 eqD (c2 ixD (cVarB 0) (cK (.int 0))) (cK (.str "falls")))) (sSeq (disow [] (sRet (c1 minLD (cComp (cItE (cVarB 1)) [2] (.one 2) (q__law_lowest_0 Φ) (c__law_lowest_1 Φ))))) (sNx)) (sNx)) (sSeq (disow [] (sRet (cK (.int 1)))) (sNx)))
abbrev N__law_lowest : List Str := ["row", "above", "other"]
abbrev P__law_lowest : List Str := ["row", "above"]
theorem e__law_lowest (k : Nat) (ds : List PyData) : Ev (k + 1) f__law_lowest ds = runC (t__law_lowest (Ev k)) N__law_lowest P__law_lowest ds := by kernel_rfl
def b__law_changed_0 (Φ : Ph) : CS := sSeq (sIf (cTst (c2 neD (cVarB 5) (c2 ixD (cVarB 3) (cK (.int 0))))) (sSeq (disow [5, 5, 5, 5] (sSet 4 true (c2 addD (cVarB 4) (cLst [cTup [cVar 5, c2 ixD (cVarB 3) (cK (.int 1))], cTup [cVar 5, cK (.int 40)], cTup [cVar 5, cK (.int 0)], cTup [cVar 5, cK (.int 1)]])))) (sNx)) (sNx)) (sNx)
def t__law_changed (Φ : Ph) : CS := sSeq (disow [] (sSet 3 false (c2 ixD (cVarB 1) (cVarB 2)))) (sSeq (disow [] (sSet 4 true (cLst [cTup [c2 ixD (cVarB 3) (cK (.int 0)), cCall Φ f__law_lowest [cVarB 3, cCall Φ f__law_above [cVarB 0, cVarB 1, cVarB 2] [some 0, some 1, some 2]] [some 3, none]], c1 listC (cVarB 3), cTup [c2 ixD (cVarB 3) (cK (.int 0))], c2 ixD (cVarB 3) (cK (.int 0)), cK .none]))) (sSeq (disow [] (sSet 4 true (c2 addD (cVarB 4) (cLst [cTup [cK (.str "Stands"), c2 ixD (cVarB 3) (cK (.int 1))], cTup [c2 ixD (cVarB 3) (cK (.int 0)), cK .none], cTup [c2 ixD (cVarB 3) (cK (.int 0)), c2 ixD (cVarB 3) (cK (.int 1)), cK (.int 0)], cTup [cK .none, c2 ixD (cVarB 3) (cK (.int 1))], cTup [c2 ixD (cVarB 3) (cK (.int 0)), c2 subD (c1 negD (cK (.int 1))) (c2 ixD (cVarB 3) (cK (.int 1)))]])))) (sSeq (disow [] (sFor (cItE (cLst [cK (.str "stands"), cK (.str "falls"), cK (.str "unsettled")])) (.one 5) (b__law_changed_0 Φ))) (sSeq (sIf (cTst (c2 ltD (c2 ixD (cVarB 3) (cK (.int 1))) (cK (.int 2)))) (sSeq (disow [] (sApp 4 (cTup [c2 ixD (cVarB 3) (cK (.int 0)), c2 eqD (c2 ixD (cVarB 3) (cK (.int 1))) (cK (.int 1))]))) (sNx)) (sNx)) (sSeq (disow [4] (sRet (cVar 4))) (sNx))))))
abbrev N__law_changed : List Str := ["pairs", "value", "number", "row", "rows", "label"]
abbrev P__law_changed : List Str := ["pairs", "value", "number"]
theorem e__law_changed (k : Nat) (ds : List PyData) : Ev (k + 1) f__law_changed ds = runC (t__law_changed (Ev k)) N__law_changed P__law_changed ds := by kernel_rfl
def b__law_accepted_right_0 (Φ : Ph) : CS := sSeq (sIf (cTst (c2 isntD (cCall Φ f_is_settled [cVarB 0, cVarB 1, cCall Φ f__law_raised [cVarB 2, cVarB 4, c2 modD (c1 intD (c2 ixD (cVarB 3) (cK (.int 2)))) (cK (.int 9))] [some 2, some 4, none]] [some 0, some 1, none]) (cK (.bool true)))) (sSeq (disow [] (sRet (cK (.bool false)))) (sNx)) (sNx)) (sNx)
def b__law_accepted_right_1 (Φ : Ph) : CS := sSeq (sIf (cTst (c2 isntD (cCall Φ f_is_settled [cVarB 0, cVarB 1, c2 addD (c2 addD (cSl (cVarB 5) none (some (cVarB 6))) (cLst [cVar 8])) (cSl (cVarB 5) (some (c2 addD (cVarB 6) (cK (.int 1)))) none)] [some 0, some 1, none]) (cK (.bool false)))) (sSeq (disow [] (sRet (cK (.bool false)))) (sNx)) (sNx)) (sNx)
def b__law_accepted_right_2 (Φ : Ph) : CS := sSeq (disow [] (sSet 7 false (cCall Φ f__law_changed [cVarB 1, cVarB 5, cVarB 6] [some 1, some 5, some 6]))) (sSeq (sIf (cTst (c2 neD (cVarB 6) (c2 modD (c1 intD (c2 ixD (cVarB 3) (cK (.int 0)))) (cVarB 0)))) (sSeq (disow [] (sSet 7 true (cSl (cVarB 7) none (some (cK (.int 1)))))) (sNx)) (sNx)) (sSeq (disow [7] (sFor (cItE (cVar 7)) (.one 8) (b__law_accepted_right_1 Φ))) (sNx)))
def b__law_accepted_right_3 (Φ : Ph) : CS := sSeq (sIf (cNotT (cTst (cCall Φ f__law_equal [cCall Φ f_is_settled [cVarB 0, cVarB 1, cVarB 9] [some 0, some 1, some 9], cAndV (c2 eqD (cVarB 9) (cVarB 2)) (c1 (isiD ["list"]) (cVarB 9))] [none, none]))) (sSeq (disow [] (sRet (cK (.bool false)))) (sNx)) (sNx)) (sNx)
def t__law_accepted_right (Φ : Ph) : CS := sSeq (disow [] (sFor (cItE (cLst [cK (.int 2), c2 addD (cK (.int 1)) (c2 modD (c1 intD (c2 ixD (cVarB 3) (cK (.int 1)))) (cK (.int 50)))])) (.one 4) (b__law_accepted_right_0 Φ))) (sSeq (disow [] (sSet 5 false (cCall Φ f__law_raised [cVarB 2, cK (.int 1), c2 modD (c1 intD (c2 ixD (cVarB 3) (cK (.int 2)))) (cK (.int 2))] [some 2, none, none]))) (sSeq (sIf (cTst (c2 isntD (cCall Φ f_is_settled [cVarB 0, cVarB 1, cVarB 5] [some 0, some 1, some 5]) (cK (.bool true)))) (sSeq (disow [] (sRet (cK (.bool false)))) (sNx)) (sNx)) (sSeq (disow [] (sFor (cRange1 (cVarB 0)) (.one 6) (b__law_accepted_right_2 Φ))) (sSeq (disow [2] (sFor (cItE (cLst [c1 tupleD (cVarB 2), c2 addD (cVarB 2) (cLst [cTup [cK (.str "stands"), cK (.int 1)]]), c2 addD (cVarB 2) (cSl (cVarB 2) none (some (cK (.int 1)))), cK .none, cTup [cVar 2]])) (.one 9) (b__law_accepted_right_3 Φ))) (sSeq (disow [] (sRet (cOrV (c2 eqD (cVarB 0) (cK (.int 0))) (c2 isD (cCall Φ f_is_settled [cVarB 0, cVarB 1, cSl (cVarB 2) (some (cK (.int 1))) none] [some 0, some 1, none]) (cK (.bool false)))))) (sNx))))))
abbrev N__law_accepted_right : List Str := ["count", "pairs", "value", "draws", "factor", "raised", "number", "rows", "row", "wrong"]
abbrev P__law_accepted_right : List Str := ["count", "pairs", "value", "draws"]
theorem e__law_accepted_right (k : Nat) (ds : List PyData) : Ev (k + 1) f__law_accepted_right ds = runC (t__law_accepted_right (Ev k)) N__law_accepted_right P__law_accepted_right ds := by kernel_rfl
def b__law_distances_0 (Φ : Ph) : CS := sSeq (sIf (cAndT (cTst (c2 inD (c2 ixD (cVarB 5) (cK (.int 0))) (cVarB 1))) (cAndT (cTst (c2 notInD (c2 ixD (cVarB 5) (cK (.int 0))) (cVarB 3))) (cTst (c2 eqD (cGet2 (cVarB 3) (c2 ixD (cVarB 5) (cK (.int 1))) (c1 negD (cK (.int 1)))) (cVarB 4))))) (sSeq (disow [] (sPut 3 (c2 ixD (cVarB 5) (cK (.int 0))) (c2 addD (cVarB 4) (cK (.int 1))))) (sNx)) (sNx)) (sNx)
def b__law_distances_1 (Φ : Ph) : CS := sSeq (disow [0] (sFor (cItE (cVar 0)) (.one 5) (b__law_distances_0 Φ))) (sNx)
def t__law_distances (Φ : Ph) : CS := sSeq (disow [] (sSet 3 true (cDisp [(cVarB 2, cK (.int 0))]))) (sSeq (disow [] (sFor (cRange1 (cK (.int 16))) (.one 4) (b__law_distances_1 Φ))) (sSeq (disow [3] (sRet (cVar 3))) (sNx)))
abbrev N__law_distances : List Str := ["pairs", "among", "last", "found", "depth", "pair"]
abbrev P__law_distances : List Str := ["pairs", "among", "last"]
theorem e__law_distances (k : Nat) (ds : List PyData) : Ev (k + 1) f__law_distances ds = runC (t__law_distances (Ev k)) N__law_distances P__law_distances ds := by kernel_rfl
def q__law_ring_0 (Φ : Ph) : CT := cAndT (cTst (c2 eqD (c2 ixD (cVarB 6) (cK (.int 0))) (cVarB 3))) (cTst (c2 inD (c2 ixD (cVarB 6) (cK (.int 1))) (cVarB 4)))
def c__law_ring_0 (Φ : Ph) : CE := c2 addD (c2 ixD (cVarB 4) (c2 ixD (cVarB 6) (cK (.int 1)))) (cK (.int 1))
def q__law_ring_1 (Φ : Ph) : CT := cAndT (cTst (c2 eqD (c2 ixD (cVarB 6) (cK (.int 0))) (c2 ixD (cVarB 2) (c1 negD (cK (.int 1)))))) (cTst (c2 eqD (cGet2 (cVarB 4) (c2 ixD (cVarB 6) (cK (.int 1))) (c1 negD (cK (.int 1)))) (cVarB 9)))
def c__law_ring_1 (Φ : Ph) : CE := c2 ixD (cVarB 6) (cK (.int 1))
def b__law_ring_0 (Φ : Ph) : CS := sSeq (disow [] (sSet 9 true (c2 subD (c2 subD (cVarB 7) (cK (.int 1))) (cVarB 8)))) (sSeq (disow [] (sSet 10 true (cComp (cItE (cVarB 0)) [6] (.one 6) (q__law_ring_1 Φ) (c__law_ring_1 Φ)))) (sSeq (disow [] (sApp 2 (c1 minLD (cVarB 10)))) (sNx)))
def b__law_ring_1 (Φ : Ph) : CS := sSeq (disow [] (sSet 4 false (cCall Φ f__law_distances [cVarB 0, cVarB 1, cVarB 3] [some 0, some 1, some 3]))) (sSeq (disow [] (sSet 5 true (cComp (cItE (cVarB 0)) [6] (.one 6) (q__law_ring_0 Φ) (c__law_ring_0 Φ)))) (sSeq (disow [] (sSet 7 false (c1 minLD (c2 addD (cVarB 5) (cLst [cK (.int 99)]))))) (sSeq (sIf (cAndT (cTst (c2 ltD (cVarB 7) (cK (.int 99)))) (cOrT (cTst (c2 eqD (c1 lenD (cVarB 2)) (cK (.int 0)))) (cTst (c2 ltD (cVarB 7) (c1 lenD (cVarB 2)))))) (sSeq (disow [3] (sSet 2 true (cLst [cVar 3]))) (sSeq (disow [] (sFor (cRange1 (c2 subD (cVarB 7) (cK (.int 1)))) (.one 8) (b__law_ring_0 Φ))) (sNx))) (sNx)) (sNx))))
def t__law_ring (Φ : Ph) : CS := sSeq (disow [] (sSet 2 true (cLst []))) (sSeq (disow [1] (sFor (cItE (cVar 1)) (.one 3) (b__law_ring_1 Φ))) (sSeq (disow [2] (sRet (cVar 2))) (sNx)))
abbrev N__law_ring : List Str := ["pairs", "among", "best", "first", "far", "lengths", "pair", "length", "k", "left", "lowers"]
abbrev P__law_ring : List Str := ["pairs", "among"]
theorem e__law_ring (k : Nat) (ds : List PyData) : Ev (k + 1) f__law_ring ds = runC (t__law_ring (Ev k)) N__law_ring P__law_ring ds := by kernel_rfl
def q__law_rings_right_0 (Φ : Ph) : CT := cTst (c2 eqD (c2 ixD (c2 ixD (cVarB 2) (cVarB 4)) (cK (.int 0))) (cK (.str "unsettled")))
def c__law_rings_right_0 (Φ : Ph) : CE := cVar 4
def b__law_rings_right_0 (Φ : Ph) : CS := sSeq (sIf (cTst (c2 isntD (cCall Φ f_is_override_ring [cVarB 0, cVarB 1, cVarB 8] [some 0, some 1, some 8]) (cK (.bool false)))) (sSeq (disow [] (sRet (cK (.bool false)))) (sNx)) (sNx)) (sNx)
def t__law_rings_right (Φ : Ph) : CS := sSeq (disow [4] (sSet 3 false (cComp (cRange1 (cVarB 0)) [4] (.one 4) (q__law_rings_right_0 Φ) (c__law_rings_right_0 Φ)))) (sSeq (disow [] (sSet 5 false (cCall Φ f__law_ring [cVarB 1, cVarB 3] [some 1, some 3]))) (sSeq (disow [] (sSet 6 false (cCall Φ f_ring_of [cVarB 0, cVarB 1] [some 0, some 1]))) (sSeq (sIf (cTst (c2 eqD (c1 lenD (cVarB 5)) (cK (.int 0)))) (sSeq (disow [] (sRet (cAndV (c2 isD (cVarB 6) (cK .none)) (cAndV (c2 eqD (c1 lenD (cVarB 3)) (cK (.int 0))) (c2 isD (cCall Φ f_is_override_ring [cVarB 0, cVarB 1, cLst []] [some 0, some 1, none]) (cK (.bool false))))))) (sNx)) (sNx)) (sSeq (sIf (cNotT (cTst (cCall Φ f__law_equal [cVarB 6, cVarB 5] [some 6, some 5]))) (sSeq (disow [] (sRet (cK (.bool false)))) (sNx)) (sNx)) (sSeq (disow [] (sSet 7 true (c2 addD (cSl (cVarB 5) (some (cK (.int 1))) none) (cSl (cVarB 5) none (some (cK (.int 1))))))) (sSeq (sIf (cOrT (cTst (c2 isntD (cCall Φ f_is_override_ring [cVarB 0, cVarB 1, cVarB 5] [some 0, some 1, some 5]) (cK (.bool true)))) (cTst (c2 isntD (cCall Φ f_is_override_ring [cVarB 0, cVarB 1, cVarB 7] [some 0, some 1, some 7]) (cK (.bool true))))) (sSeq (disow [] (sRet (cK (.bool false)))) (sNx)) (sNx)) (sSeq (disow [0] (sFor (cItE (cLst [c1 tupleD (cVarB 5), c2 addD (cVarB 5) (cVarB 5), cSl (cVarB 5) (some (cK (.int 1))) none, c2 addD (cVarB 5) (cLst [cVar 0]), cLst [], cK .none, c2 addD (cLst [cK .none]) (cSl (cVarB 5) (some (cK (.int 1))) none), c2 addD (cVarB 5) (cLst [c1 negD (cK (.int 1))])])) (.one 8) (b__law_rings_right_0 Φ))) (sSeq (sIf (cTst (c2 eqD (c1 lenD (cVarB 5)) (cK (.int 2)))) (sSeq (disow [] (sRet (cK (.bool true)))) (sNx)) (sNx)) (sSeq (disow [] (sRet (c2 isD (cCall Φ f_is_override_ring [cVarB 0, cVarB 1, c1 revD (cVarB 5)] [some 0, some 1, none]) (cK (.bool false))))) (sNx))))))))))
abbrev N__law_rings_right : List Str := ["count", "pairs", "value", "among", "number", "ring", "told", "turned", "wrong"]
abbrev P__law_rings_right : List Str := ["count", "pairs", "value"]
theorem e__law_rings_right (k : Nat) (ds : List PyData) : Ev (k + 1) f__law_rings_right ds = runC (t__law_rings_right (Ev k)) N__law_rings_right P__law_rings_right ds := by kernel_rfl
def q__law_renumbered_0 (Φ : Ph) : CT := cTst (c2 inD (cVarB 2) (cVarB 1))
def c__law_renumbered_0 (Φ : Ph) : CE := cMe indexD (cVarB 1) (cVarB 2)
def t__law_renumbered (Φ : Ph) : CS := sSeq (sIf (cTst (c2 isD (cVarB 0) (cK .none))) (sSeq (disow [] (sRet (cK .none))) (sNx)) (sNx)) (sSeq (disow [] (sRet (c1 tupleD (cComp (cItE (cVarB 0)) [2] (.one 2) (q__law_renumbered_0 Φ) (c__law_renumbered_0 Φ))))) (sNx))
abbrev N__law_renumbered : List Str := ["numbers", "kept", "number"]
abbrev P__law_renumbered : List Str := ["numbers", "kept"]
theorem e__law_renumbered (k : Nat) (ds : List PyData) : Ev (k + 1) f__law_renumbered ds = runC (t__law_renumbered (Ev k)) N__law_renumbered P__law_renumbered ds := by kernel_rfl
def q__law_bits_0 (Φ : Ph) : CT := cTst (c2 eqD (c2 modD (c2 fdivD (c1 intD (cVarB 0)) (c2 ixD (cLst [cK (.int 1), cK (.int 2), cK (.int 4), cK (.int 8), cK (.int 16)]) (cVarB 2))) (cK (.int 2))) (cK (.int 1)))
def c__law_bits_0 (Φ : Ph) : CE := cVar 2
def t__law_bits (Φ : Ph) : CS := sSeq (disow [2] (sRet (c1 tupleD (cComp (cRange1 (cVarB 1)) [2] (.one 2) (q__law_bits_0 Φ) (c__law_bits_0 Φ))))) (sNx)
abbrev N__law_bits : List Str := ["mask", "count", "k"]
abbrev P__law_bits : List Str := ["mask", "count"]
theorem e__law_bits (k : Nat) (ds : List PyData) : Ev (k + 1) f__law_bits ds = runC (t__law_bits (Ev k)) N__law_bits P__law_bits ds := by kernel_rfl
def b__law_consolidated_right_0 (Φ : Ph) : CS := sSeq (disow [] (sSet 6 false (cCall Φ f__law_bits [c2 ixD (cVarB 3) (c2 mulI (cK (.int 2)) (cVarB 5)), cVarB 0] [none, some 0]))) (sSeq (disow [] (sSet 7 false (cCall Φ f__law_bits [c2 ixD (cVarB 3) (c2 addD (c2 mulI (cK (.int 2)) (cVarB 5)) (cK (.int 1))), cVarB 0] [none, some 0]))) (sSeq (disow [6, 7] (sApp 4 (cTup [c2 ixD (cLst [cK (.str "may"), cK (.str "must")]) (c2 modD (cVarB 5) (cK (.int 2))), cK (.str "ann"), c2 ixD (cLst [cK (.str "pay"), cK (.str "sell"), cK (.str "call")]) (c2 modD (cVarB 5) (cK (.int 3))), c2 addD (cVarB 5) (cK (.int 1)), cVar 6, cVar 7]))) (sNx)))
def q__law_consolidated_right_0 (Φ : Ph) : CT := cTst (c2 eqD (c2 ixD (c2 ixD (cVarB 2) (cVarB 12)) (cK (.int 0))) (cK (.str "unsettled")))
def c__law_consolidated_right_0 (Φ : Ph) : CE := cVar 12
def q__law_consolidated_right_1 (Φ : Ph) : CT := cTst (c2 eqD (c2 ixD (c2 ixD (cVarB 2) (cVarB 12)) (cK (.int 0))) (cK (.str "stands")))
def c__law_consolidated_right_1 (Φ : Ph) : CE := cVar 12
def b__law_consolidated_right_1 (Φ : Ph) : CS := sSeq (disow [] (sSet 15 false (c2 ixD (c2 ixD (cVarB 8) (cK (.int 0))) (cVarB 12)))) (sSeq (disow [] (sApp 14 (c2 addD (cSl (cVarB 15) none (some (cK (.int 4)))) (cTup [cCall Φ f__law_renumbered [c2 ixD (cVarB 15) (cK (.int 4)), cVarB 13] [none, some 13], cCall Φ f__law_renumbered [c2 ixD (cVarB 15) (cK (.int 5)), cVarB 13] [none, some 13]])))) (sNx))
def t__law_consolidated_right (Φ : Ph) : CS := sSeq (sIf (cNotT (cTst (cCall Φ f__law_is_settlement [cVarB 0, cVarB 1, cVarB 2] [some 0, some 1, some 2]))) (sSeq (disow [] (sRet (cK (.bool false)))) (sNx)) (sNx)) (sSeq (disow [] (sSet 4 true (cLst []))) (sSeq (disow [] (sFor (cRange1 (cVarB 0)) (.one 5) (b__law_consolidated_right_0 Φ))) (sSeq (disow [] (sSet 8 false (cTup [c1 tupleD (cVarB 4), cCall Φ f__law_bits [c2 ixD (cVarB 3) (cK (.int 10)), cVarB 0] [none, some 0]]))) (sSeq (disow [] (sSet 9 false (cTup [cK (.str "none")]))) (sSeq (sTry G (sSeq (disow [] (sSet 9 false (cTup [cK (.str "contract"), cCall Φ f_consolidated [cVarB 8, cVarB 1] [some 8, some 1]]))) (sNx)) [⟨"Unsettled", (some 10), sSeq (sIf (cAndT (cTst (cIsE G 10 ["PactError"])) (cAndT (cTst (cIsE G 10 ["ValueError"])) (cNotT (cTst (cIsE G 10 ["InvalidOverrides"]))))) (sSeq (disow [] (sSet 9 false (cTup [cK (.str "unsettled"), cFld G 10 "number"]))) (sNx)) (sNx)) (sNx)⟩]) (sSeq (disow [12] (sSet 11 true (cComp (cRange1 (cVarB 0)) [12] (.one 12) (q__law_consolidated_right_0 Φ) (c__law_consolidated_right_0 Φ)))) (sSeq (sIf (cTst (c2 gtD (c1 lenD (cVarB 11)) (cK (.int 0)))) (sSeq (disow [] (sRet (cCall Φ f__law_equal [cVarB 9, cTup [cK (.str "unsettled"), c2 ixD (cVarB 11) (cK (.int 0))]] [some 9, none]))) (sNx)) (sNx)) (sSeq (disow [12] (sSet 13 true (cComp (cRange1 (cVarB 0)) [12] (.one 12) (q__law_consolidated_right_1 Φ) (c__law_consolidated_right_1 Φ)))) (sSeq (disow [] (sSet 14 true (cLst []))) (sSeq (disow [13] (sFor (cItE (cVar 13)) (.one 12) (b__law_consolidated_right_1 Φ))) (sSeq (disow [] (sRet (cCall Φ f__law_equal [cVarB 9, cTup [cK (.str "contract"), cTup [c1 tupleD (cVarB 14), cCall Φ f__law_renumbered [c2 ixD (cVarB 8) (cK (.int 1)), cVarB 13] [none, some 13]]]] [some 9, none]))) (sNx))))))))))))
abbrev N__law_consolidated_right : List Str := ["count", "pairs", "value", "draws", "clauses", "k", "done", "lapsed", "contract", "told", "e", "among", "number", "kept", "due", "clause"]
abbrev P__law_consolidated_right : List Str := ["count", "pairs", "value", "draws"]
theorem e__law_consolidated_right (k : Nat) (ds : List PyData) : Ev (k + 1) f__law_consolidated_right ds = runC (t__law_consolidated_right (Ev k)) N__law_consolidated_right P__law_consolidated_right ds := by kernel_rfl
def t__law_right (Φ : Ph) : CS := sSeq (sIf (cNotT (cTst (cCall Φ f__law_made_right [cVarB 0, cVarB 1, cVarB 2] [some 0, some 1, some 2]))) (sSeq (disow [] (sRet (cK (.bool false)))) (sNx)) (sNx)) (sSeq (disow [] (sSet 3 false (cCall Φ f__law_sorted [cVarB 0] [some 0]))) (sSeq (disow [] (sSet 4 false (cCall Φ f_settle [cVarB 1, cVarB 3] [some 1, some 3]))) (sSeq (sIf (cNotT (cTst (cCall Φ f__law_is_settlement [cVarB 1, cVarB 3, cVarB 4] [some 1, some 3, some 4]))) (sSeq (disow [] (sRet (cK (.bool false)))) (sNx)) (sNx)) (sSeq (disow [] (sRet (cAndV (cCall Φ f__law_accepted_right [cVarB 1, cVarB 3, cVarB 4, cVarB 2] [some 1, some 3, some 4, some 2]) (cCall Φ f__law_rings_right [cVarB 1, cVarB 3, cVarB 4] [some 1, some 3, some 4])))) (sNx)))))
abbrev N__law_right : List Str := ["rows", "count", "draws", "pairs", "value"]
abbrev P__law_right : List Str := ["rows", "count", "draws"]
theorem e__law_right (k : Nat) (ds : List PyData) : Ev (k + 1) f__law_right ds = runC (t__law_right (Ev k)) N__law_right P__law_right ds := by kernel_rfl
def t_law (Φ : Ph) : CS := sSeq (disow [] (sSet 1 false (cCall Φ f__law_draws [cCall Φ f__law_cell [cVarB 0, cK (.int 0)] [some 0, none], cLst [cK (.int 4), cK (.int 9), cK (.int 8), cK (.int 6), cK (.int 30), cK (.int 50), cK (.int 9)]] [none, none]))) (sSeq (disow [] (sSet 2 false (c2 ixD (cVarB 1) (cK (.int 1))))) (sSeq (sIf (cTst (c2 eqD (c2 ixD (cVarB 1) (cK (.int 0))) (cK (.int 1)))) (sSeq (disow [] (sSet 2 true (c2 addD (cK (.int 9)) (c2 ixD (cVarB 1) (cK (.int 2)))))) (sNx)) (sNx)) (sSeq (sIf (cNotT (cTst (cCall Φ f__law_right [cCall Φ f__law_drawn_rows [cCall Φ f__law_cell [cVarB 0, cK (.int 1)] [some 0, none], cVarB 2] [none, some 2], cVarB 2, cSl (cVarB 1) (some (cK (.int 4))) none] [none, some 2, none]))) (sSeq (disow [] (sRet (cK (.bool false)))) (sNx)) (sNx)) (sSeq (disow [] (sSet 3 false (c2 ixD (cVarB 1) (cK (.int 3))))) (sSeq (disow [] (sSet 4 true (cSl (cCall Φ f__law_drawn_rows [cCall Φ f__law_cell [cVarB 0, cK (.int 2)] [some 0, none], cVarB 3] [none, some 3]) none (some (cK (.int 5)))))) (sSeq (sIf (cNotT (cTst (cCall Φ f__law_right [cVarB 4, cVarB 3, cSl (cVarB 1) (some (cK (.int 4))) none] [some 4, some 3, none]))) (sSeq (disow [] (sRet (cK (.bool false)))) (sNx)) (sNx)) (sSeq (disow [] (sSet 5 false (cCall Φ f__law_sorted [cVarB 4] [some 4]))) (sSeq (disow [] (sSet 6 false (cCall Φ f__law_draws [cCall Φ f__law_cell [cVarB 0, cK (.int 3)] [some 0, none], c2 mulD (cLst [cK (.int 32)]) (cK (.int 11))] [none, none]))) (sSeq (disow [] (sRet (cCall Φ f__law_consolidated_right [cVarB 3, cVarB 5, cCall Φ f_settle [cVarB 3, cVarB 5] [some 3, some 5], cVarB 6] [some 3, some 5, none, some 6]))) (sNx))))))))))
abbrev N_law : List Str := ["script", "draws", "count", "small", "rows", "pairs", "bits"]
abbrev P_law : List Str := ["script"]
theorem e_law (k : Nat) (ds : List PyData) : Ev (k + 1) f_law ds = runC (t_law (Ev k)) N_law P_law ds := by kernel_rfl
end Pv.K44


namespace Pv.K44
open PySem PySem.Spec L2
open PyProof.Rows hiding St

/-! ### cells, draws, names, equal data -/
theorem u_cell_body (Φ : Ph) (a b : Sl) (m c : Int) : ∃ m' : Int, b__law_cell_0 Φ [a, b, .dat (.int m) false, .dat (.int c) false] = .nx [a, b, .dat (.int m') false, .dat (.int c) false] := by
  have h1 := mulI_intr m 48271 (by decide)
  have h2 := modD_int (m * 48271 + c) (j := 2147483647) (by decide)
  exact ⟨_, by simp [b__law_cell_0, h1, h2]; rfl⟩
theorem v_cell (kk : Nat) (ns : List Int) (hl : ns.length ≤ 63) (k : Int) (hk : 0 ≤ k) : ∃ n : Int, Ev (kk + 1) f__law_cell [.list (ns.map .int), .int k] = .ok (.int n) := by
  suffices hs : ∃ n : Int, runC (t__law_cell (Ev kk)) N__law_cell P__law_cell [.list (ns.map .int), .int k] = .ok (.int n) by
    obtain ⟨n, h⟩ := hs
    exact ⟨n, (e__law_cell kk _).trans h⟩
  generalize Ev kk = Φ
  by_cases h : k < ns.length
  · obtain ⟨i, rfl⟩ := Int.eq_ofNat_of_zero_le hk
    have hi : ixD (.list (ns.map .int)) (.int i) = .ok (.int (ns[i]'(by omega))) := ixL_nat (by simp)
    exact ⟨ns[i]'(by omega), by simp [t__law_cell, h, hi]⟩
  · obtain ⟨ρ', h1, m, y, rfl⟩ := forL_inv PyData.int (fun done ρ => ∃ (m : Int) (y : Sl), ρ = [.dat (.list (ns.map .int)) false, .dat (.int k) false, .dat (.int m) false, y]) (i := 3) (b := b__law_cell_0 Φ) ns (by
      rintro done a rest ρ e ⟨m, y, rfl⟩
      obtain ⟨m', g⟩ := u_cell_body Φ (.dat (.list (ns.map .int)) false) (.dat (.int k) false) m a
      exact ⟨_, .inl g, m', _, rfl⟩) (ρ := [.dat (.list (ns.map .int)) false, .dat (.int k) false, .dat (.int (7 * k + 11)) false, .no]) ⟨_, _, rfl⟩
    have hm := mulI_intl 7 k (by decide)
    exact ⟨m, by simp [t__law_cell, h, hm, h1]⟩
theorem u_draws_body (Φ : Ph) (cell rest l : Int) (lims : PyData) (xs : List Int) (k : Nat) (w : Sl) (hx : xs.length < 1000) (hk : k ≤ 1000) (h0 : 0 < l) (h1 : l.natAbs.log2 < 9000) (hi : ixD lims (.int k) = .ok (.int l)) :
    ∃ (x rest' : Int) (w' : Sl), b__law_draws_0 Φ [.dat (.int cell) false, .dat lims false, .dat (.list (xs.map .int)) true, .dat (.int rest) false, .dat (natD k) false, w] = .nx [.dat (.int cell) false, .dat lims false, .dat (.list ((xs ++ [x]).map .int)) true, .dat (.int rest') false, .dat (natD k) false, w'] ∧ 0 ≤ x ∧ x < l := by
  have m1 := mulI_intr cell 48271 (by decide)
  have m2 := mulI_intr k 69621 (by decide)
  have m3 : ∀ a, mulD (.int a) (.int 16807) = .ok (.int (a * 16807)) := fun a => mulD_intr _ _ (by decide)
  have m4 := mulI_intl k k (by omega)
  have d1 : ∀ a, modD (.int a) (.int 2147483647) = .ok (.int (a % 2147483647)) := fun a => modD_int _ (by decide)
  have d2 : ∀ a, modD (.int a) (.int 998244353) = .ok (.int (a % 998244353)) := fun a => modD_int _ (by decide)
  have d3 : ∀ a, modD (.int a) (.int l) = .ok (.int (a % l)) := fun a => modD_int _ h0
  have f1 := fdivD_int rest h0 h1
  have hp : powD (.int 10) (.int 18) = .ok (.int 1000000000000000000) := by rfl
  have n1 : xs.length < 16000000 := by omega
  by_cases hc : cell < 1000000000000000000
  · refine ⟨_, rest, _, by simp [b__law_draws_0, natD, hp, hc, m1, m2, m3, m4, d1, d2, d3, hi, n1]; exact ⟨rfl, rfl⟩, Int.emod_nonneg _ (by omega), Int.emod_lt_of_pos _ h0⟩
  · refine ⟨_, rest / l, _, by simp [b__law_draws_0, natD, hp, hc, f1, d3, hi, n1]; exact ⟨rfl, rfl⟩, Int.emod_nonneg _ (by omega), Int.emod_lt_of_pos _ h0⟩
theorem v_draws (kk : Nat) (cell : Int) (ls : List Int) (hl : ls.length ≤ 900) (hp : LimOk ls) : ∃ xs, Dr xs ls ∧ Ev (kk + 1) f__law_draws [.int cell, .list (ls.map .int)] = .ok (.list (xs.map .int)) := by
  suffices hs : ∃ xs, Dr xs ls ∧ runC (t__law_draws (Ev kk)) N__law_draws P__law_draws [.int cell, .list (ls.map .int)] = .ok (.list (xs.map .int)) by
    obtain ⟨xs, h0, h⟩ := hs
    exact ⟨xs, h0, (e__law_draws kk _).trans h⟩
  generalize Ev kk = Φ
  have hr := cRange1_nat (n := ls.length) (a := c1 lenD (cVarB 1)) (ρ := [.dat (.int cell) false, .dat (.list (ls.map .int)) false, .dat (.list []) true, .dat (.int cell) false, .no, .no]) (by simp) (by omega)
  obtain ⟨ρ', h1, xs, rest, y, w, rfl, hd⟩ := forL_inv natD (fun done ρ => ∃ (xs : List Int) (rest : Int) (y w : Sl), ρ = [.dat (.int cell) false, .dat (.list (ls.map .int)) false, .dat (.list (xs.map .int)) true, .dat (.int rest) false, y, w] ∧ Dr xs (ls.take done.length)) (i := 4) (b := b__law_draws_0 Φ) (List.range ls.length) (by
    rintro done a rest ρ e ⟨xs, r, y, w, rfl, hd⟩
    obtain ⟨hj, rfl⟩ := range_at e
    obtain ⟨p0, p1⟩ := hp _ (List.getElem_mem hj)
    have hi : ixD (.list (ls.map .int)) (.int done.length) = .ok (.int ls[done.length]) := ixL_nat (by simp [hj])
    have hlen := hd.len
    rw [List.length_take] at hlen
    obtain ⟨x, r', w', g1, g2, g3⟩ := u_draws_body Φ cell r _ (.list (ls.map .int)) xs done.length w (by omega) (by omega) p0 p1 hi
    refine ⟨_, .inl g1, _, _, _, _, rfl, ?_⟩
    rw [List.length_append]
    show Dr _ (ls.take (done.length + 1))
    rw [List.take_succ_eq_append_getElem hj]
    exact hd.app g2 g3) (ρ := [.dat (.int cell) false, .dat (.list (ls.map .int)) false, .dat (.list []) true, .dat (.int cell) false, .no, .no]) ⟨[], cell, .no, .no, rfl, trivial⟩
  rw [List.length_range, List.take_length] at hd
  refine ⟨xs, hd, ?_⟩
  generalize hR : (List.range ls.length).map natD = L at hr h1
  simp [-cRange1_ap, t__law_draws, hr, h1]
theorem u_equal_body (Φ : Ph) (d x : PyData) (i : Nat) (e : ixD d (.int i) = .ok x) (h : Φ f__law_equal [x, x] = .ok (.bool true)) : b__law_equal_0 Φ [.dat d false, .dat d false, .dat (natD i) false] = .nx [.dat d false, .dat d false, .dat (natD i) false] := by
  unfold natD
  simp [b__law_equal_0, e, h]
theorem u_equal_seq (Φ : Ph) (ds : List PyData) (d : PyData) (hd : d = .tuple ds ∨ d = .list ds) (hl : ds.length ≤ 1000) (h : ∀ x ∈ ds, Φ f__law_equal [x, x] = .ok (.bool true)) : runC (t__law_equal Φ) N__law_equal P__law_equal [d, d] = .ok (.bool true) := by
  have hix : ∀ i : Nat, i < ds.length → ∃ x ∈ ds, ixD d (.int i) = .ok x := by
    intro i hi
    refine ⟨ds[i], List.getElem_mem hi, ?_⟩
    rcases hd with rfl | rfl
    · exact ixT_nat (by simp [hi])
    · exact ixL_nat (by simp [hi])
  have hln : lenD d = .ok (.int ds.length) := by rcases hd with rfl | rfl <;> rfl
  have hr := cRange1_nat (n := ds.length) (a := c1 lenD (cVarB 1)) (ρ := [.dat d false, .dat d false, .no]) (by rcases hd with rfl | rfl <;> rfl) (by omega)
  have hS : ∃ y, forL (.one 2) (b__law_equal_0 Φ) ((List.range ds.length).map natD) [.dat d false, .dat d false, .no] = .nx [.dat d false, .dat d false, y] := forL_same natD (fun y => [.dat d false, .dat d false, y]) (i := 2) (b := b__law_equal_0 Φ) (List.range ds.length) (fun x y => rfl) (by
    intro i hi
    obtain ⟨x, hx, e⟩ := hix i (by simpa using hi)
    exact u_equal_body Φ d x i e (h x hx)) .no
  obtain ⟨y, h1⟩ := hS
  generalize hR : (List.range ds.length).map natD = L at hr h1
  clear hR hix h
  rcases hd with rfl | rfl
  · simp [-cRange1_ap, t__law_equal, hr, h1, neD_bool]
  · simp [-cRange1_ap, t__law_equal, hr, h1, neD_bool]
theorem v_equal : ∀ (n k : Nat) (d : PyData), plainD n d = true → Ev (k + n) f__law_equal [d, d] = .ok (.bool true)
  | 0, _, _, h => by cases h
  | n + 1, k, d, h => by
    show Ev ((k + n) + 1) f__law_equal [d, d] = _
    rw [e__law_equal]
    cases d with
    | none => simp [t__law_equal]
    | int i => simp [t__law_equal]
    | bool b => simp [t__law_equal]
    | str z => simp [t__law_equal]
    | tuple ds =>
      simp [plainD] at h
      exact u_equal_seq _ ds _ (.inl rfl) h.1 fun x hx => v_equal n k x (h.2 x hx)
    | list ds =>
      simp [plainD] at h
      exact u_equal_seq _ ds _ (.inr rfl) h.1 fun x hx => v_equal n k x (h.2 x hx)
    | _ => cases h
/-! ### distinct -/
theorem u_distinct_body (Φ : Ph) (s0 : Sl) (acc : List PyData) (x : PyData) (hl : acc.length < 10000) (hs : ∀ y ∈ acc, shal y x = true) : b_distinct_0 Φ [s0, .dat (.list acc) true, .dat x false] = .nx [s0, .dat (.list (if acc.getLast?.any (fun y => PyData.eqv y x) = true then acc else acc ++ [x])) true, .dat x false] := by
  have hn : acc.length < 16000000 := by omega
  rcases List.eq_nil_or_concat acc with rfl | ⟨init, y, rfl⟩
  · simp [b_distinct_0]
  · have h1 := ixL_last init y
    have h2 : neD y x = .ok (.bool (!PyData.eqv y x)) := if_pos (hs y (by simp))
    have h0 : ¬ ((init.length : Int) + 1 = 0) := by omega
    rw [List.concat_eq_append] at hn ⊢
    simp only [List.length_append, List.length_cons, List.length_nil] at hn
    cases he : PyData.eqv y x <;> simp [b_distinct_0, h1, h2, h0, he, hn]
theorem v_distinct (k : Nat) {d : PyData} {ds ss : List PyData} (hd : d = .list ds ∨ d = .tuple ds) (h : sortD (.list ds) = .ok (.list ss)) (hl : ss.length < 10000) (hs : ∀ x ∈ ss, ∀ z ∈ ss, shal x z = true) : Ev (k + 1) f_distinct [d] = .ok (.tuple (ded ss)) := by
  refine (e_distinct k _).trans ?_
  generalize Ev k = Φ
  obtain ⟨y', h1⟩ := ded_loop (b := b_distinct_0 Φ) (s0 := .dat d false) (fun acc x g1 g2 => u_distinct_body Φ _ acc x g1 g2) ss [] .no (by simpa using hl) (by simpa using hs)
  have hc : listC d = .ok (.list ds) := by rcases hd with rfl | rfl <;> rfl
  have e : ded ss = dedG [] ss := rfl
  rw [e]
  simp [t_distinct, hc, h, h1]
/-! ### the law's sorted -/
theorem u__law_sorted_body (Φ : Ph) (s0 : Sl) (acc : List PyData) (x : PyData) (hl : acc.length < 10000) (hs : ∀ y ∈ acc, shal y x = true) : b__law_sorted_0 Φ [s0, .dat (.list acc) true, .dat x false] = .nx [s0, .dat (.list (if acc.getLast?.any (fun y => PyData.eqv y x) = true then acc else acc ++ [x])) true, .dat x false] := by
  have hn : acc.length < 16000000 := by omega
  rcases List.eq_nil_or_concat acc with rfl | ⟨init, y, rfl⟩
  · simp [b__law_sorted_0]
  · have h1 := ixL_last init y
    have h2 : neD y x = .ok (.bool (!PyData.eqv y x)) := if_pos (hs y (by simp))
    have h0 : ¬ ((init.length : Int) + 1 = 0) := by omega
    rw [List.concat_eq_append] at hn ⊢
    simp only [List.length_append, List.length_cons, List.length_nil] at hn
    cases he : PyData.eqv y x <;> simp [b__law_sorted_0, h1, h2, h0, he, hn]
theorem v__law_sorted (k : Nat) {ds ss : List PyData} (h : sortD (.list ds) = .ok (.list ss)) (hl : ss.length < 10000) (hs : ∀ x ∈ ss, ∀ z ∈ ss, shal x z = true) : Ev (k + 1) f__law_sorted [.list ds] = .ok (.tuple (ded ss)) := by
  refine (e__law_sorted k _).trans ?_
  generalize Ev k = Φ
  obtain ⟨y', h1⟩ := ded_loop (b := b__law_sorted_0 Φ) (s0 := .dat (.list ds) false) (fun acc x g1 g2 => u__law_sorted_body Φ _ acc x g1 g2) ss [] .no (by simpa using hl) (by simpa using hs)
  have e : ded ss = dedG [] ss := rfl
  rw [e]
  simp [t__law_sorted, h, h1]
end Pv.K44


namespace Pv.K44
open PySem PySem.Spec L2
open PyProof.Rows hiding St

/-! ### overrides -/
theorem v_distA {α : Type} [DecidableEq α] {enc : α → PyData} {le : α → α → Bool} (h : EncA enc le) (k : Nat) {d : PyData} (l : List α) (hl : l.length ≤ 1000) (hd : d = .list (l.map enc) ∨ d = .tuple (l.map enc)) : Ev (k + 1) f_distinct [d] = .ok (.tuple ((distA le l).map enc)) := by
  have hp := (srtA_perm le l).length_eq
  rw [v_distinct k hd (h.sortD l) (by rw [List.length_map]; omega) (h.shal _ _), h.ded]
theorem v_law_sortedA {α : Type} [DecidableEq α] {enc : α → PyData} {le : α → α → Bool} (h : EncA enc le) (k : Nat) (l : List α) (hl : l.length ≤ 1000) : Ev (k + 1) f__law_sorted [.list (l.map enc)] = .ok (.tuple ((distA le l).map enc)) := by
  have hp := (srtA_perm le l).length_eq
  rw [v__law_sorted k (h.sortD l) (by rw [List.length_map]; omega) (h.shal _ _), h.ded]
def intdB : PyData → Bool
  | .int _ => true
  | _ => false
theorem v_is_integer (k : Nat) (d : PyData) : Ev (k + 1) f_is_integer [d] = .ok (.bool (intdB d)) := by
  refine (e_is_integer k _).trans ?_
  generalize Ev k = Φ
  cases d <;> simp [t_is_integer, intdB]
/-- a number below n -/
def okB (n : Nat) : PyData → Bool
  | .int i => decide (0 ≤ i) && decide (i < n)
  | _ => false
def ovB (n : Nat) : PyData → Bool
  | .tuple [.int a, .int b] => okB n (.int a) && (okB n (.int b) && decide (a ≠ b))
  | _ => false
theorem u_is_override_body (Φ : Ph) (h : ∀ d, Φ f_is_integer [d] = .ok (.bool (intdB d))) (s0 : Sl) (n : Nat) (x : PyData) : b_is_override_0 Φ [s0, .dat (.int n) false, .dat x false] = if okB n x = true then .nx [s0, .dat (.int n) false, .dat x false] else .rt (.bool false) := by
  have hx := h x
  cases x with
  | int i =>
    by_cases h1 : 0 ≤ i
    · by_cases h2 : i < n <;> simp [b_is_override_0, hx, intdB, okB, h1, h2]
    · simp [b_is_override_0, hx, intdB, okB, h1]
  | _ => simp [b_is_override_0, hx, intdB, okB]
theorem u_is_override (Φ : Ph) (h : ∀ d, Φ f_is_integer [d] = .ok (.bool (intdB d))) (n : Nat) (d : PyData) : runC (t_is_override Φ) N_is_override P_is_override [d, .int n] = .ok (.bool (ovB n d)) := by
  have hb := u_is_override_body Φ h (.dat d false) n
  cases d with
  | tuple ds =>
    match ds with
    | [] => simp [t_is_override, ovB]
    | [x] => simp [t_is_override, ovB]
    | [x, y] =>
      have h2 : lenD (.tuple [x, y]) = .ok (.int 2) := rfl
      cases hx : okB n x with
      | false =>
        have e : ovB n (.tuple [x, y]) = false := by
          cases x <;> cases y <;> simp_all [ovB]
        rw [e]
        have b1 := hb x
        rw [hx] at b1
        simp [t_is_override, b1]
      | true =>
        cases hy : okB n y with
        | false =>
          have e : ovB n (.tuple [x, y]) = false := by
            cases x <;> cases y <;> simp_all [ovB]
          rw [e]
          have b1 := hb x
          have b2 := hb y
          rw [hx] at b1
          rw [hy] at b2
          simp [t_is_override, b1, b2]
        | true =>
          have b1 := hb x
          have b2 := hb y
          rw [hx] at b1
          rw [hy] at b2
          cases x with
          | int i =>
            cases y with
            | int j =>
              have e : ovB n (.tuple [.int i, .int j]) = decide (i ≠ j) := by simp [ovB, hx, hy]
              rw [e]
              simp [t_is_override, b1, b2]
            | _ => cases hy
          | _ => cases hx
    | x :: y :: z :: ds =>
      have hn : ¬ ((((x :: y :: z :: ds).length : Nat) : Int) = 2) := by simp; omega
      have h2 : lenD (.tuple (x :: y :: z :: ds)) = .ok (.int ((x :: y :: z :: ds).length : Nat)) := rfl
      have e : ovB n (.tuple (x :: y :: z :: ds)) = false := by cases x <;> (try rfl) <;> cases y <;> rfl
      rw [e]
      generalize x :: y :: z :: ds = L at *
      simp [t_is_override, hn]
  | _ => simp [t_is_override, ovB]
theorem v_is_override (k n : Nat) (d : PyData) : Ev (k + 2) f_is_override [d, .int n] = .ok (.bool (ovB n d)) :=
  (e_is_override (k + 1) _).trans (u_is_override _ (fun d => v_is_integer k d) n d)
theorem fl_ovs : G.flds "InvalidOverrides" = (["index"] : List Str) := by rfl
theorem fl_uns : G.flds "Unsettled" = (["number"] : List Str) := by rfl
theorem ixS {d : PyData} {ds : List PyData} (hd : d = .list ds ∨ d = .tuple ds) {i : Nat} {x : PyData} (h : ds[i]? = some x) : ixD d (.int i) = .ok x := by
  rcases hd with rfl | rfl
  · exact ixL_nat h
  · exact ixT_nat h
theorem lenS {d : PyData} {ds : List PyData} (hd : d = .list ds ∨ d = .tuple ds) : lenD d = .ok (.int (ds.length : Nat)) := by
  rcases hd with rfl | rfl <;> rfl
theorem u_make_body (Φ : Ph) (n : Nat) (h : ∀ d, Φ f_is_override [d, .int n] = .ok (.bool (ovB n d))) (d x : PyData) (i : Nat) (e : ixD d (.int i) = .ok x) : b_make_overrides_0 Φ [.dat d false, .dat (.int n) false, .dat (natD i) false] = if ovB n x = true then .nx [.dat d false, .dat (.int n) false, .dat (natD i) false] else .exc "InvalidOverrides" [.int i] [.dat d false, .dat (.int n) false, .dat (natD i) false] := by
  have hx := h x
  unfold natD
  cases hb : ovB n x <;> simp [b_make_overrides_0, e, hx, hb, fl_ovs]
theorem isi_seq {d : PyData} {ds : List PyData} (hd : d = .list ds ∨ d = .tuple ds) : isiD ["list", "tuple"] d = .ok (.bool true) := by
  rcases hd with rfl | rfl <;> rfl
theorem v_make_ok (k n : Nat) {d : PyData} {ds : List PyData} (hd : d = .list ds ∨ d = .tuple ds) (hl : ds.length ≤ 1000) (h : ∀ x ∈ ds, ovB n x = true) (r : PyData) (hr : Ev (k + 2) f_distinct [d] = .ok r) : Ev (k + 3) f_make_overrides [d, .int n] = .ok r := by
  refine (e_make_overrides (k + 2) _).trans ?_
  have h1 := fun d => v_is_override k n d
  generalize Ev (k + 2) = Φ at h1 hr
  have hb := u_make_body Φ n h1 d
  obtain ⟨y, g⟩ := forL_same natD (fun y => [.dat d false, .dat (.int n) false, y]) (i := 2) (b := b_make_overrides_0 Φ) (List.range ds.length) (fun x y => rfl) (by
    intro i hi
    have hi : i < ds.length := by simpa using hi
    have := hb ds[i] i (ixS hd (by simp [hi]))
    rw [h _ (List.getElem_mem hi), if_pos rfl] at this
    exact this) .no
  have hrg := cRange1_nat (n := ds.length) (a := c1 lenD (cVarB 0)) (ρ := [.dat d false, .dat (.int n) false, .no]) (by simp [lenS hd]) (by omega)
  generalize hR : (List.range ds.length).map natD = L at g hrg
  rcases hd with rfl | rfl <;> simp [-cRange1_ap, t_make_overrides, hrg, g, hr]
theorem v_make_bad (k n : Nat) {d : PyData} {as bs : List PyData} {x : PyData} (hd : d = .list (as ++ x :: bs) ∨ d = .tuple (as ++ x :: bs)) (hl : (as ++ x :: bs).length ≤ 1000) (h : ∀ x ∈ as, ovB n x = true) (hx : ovB n x = false) : Ev (k + 3) f_make_overrides [d, .int n] = .exc "InvalidOverrides" [.int as.length] := by
  refine (e_make_overrides (k + 2) _).trans ?_
  have h1 := fun d => v_is_override k n d
  generalize Ev (k + 2) = Φ at h1
  have hb := u_make_body Φ n h1 d
  obtain ⟨l, hl2⟩ := range_split (m := as.length) (n := (as ++ x :: bs).length) (by simp)
  have b1 := hb x as.length (ixS hd (by simp))
  rw [hx, if_neg (by simp)] at b1
  have g := forL_stop natD (fun y => [.dat d false, .dat (.int n) false, y]) (i := 2) (b := b_make_overrides_0 Φ) (List.range as.length) l as.length _ (fun x y => rfl) (by
    intro i hi
    have hi : i < as.length := by simpa using hi
    have := hb as[i] i (ixS hd (by rw [List.getElem?_append_left hi]; simp [hi]))
    rw [h _ (List.getElem_mem hi), if_pos rfl] at this
    exact this) b1 (.inr ⟨_, _, _, rfl⟩) .no
  rw [← hl2] at g
  have hrg := cRange1_nat (n := (as ++ x :: bs).length) (a := c1 lenD (cVarB 0)) (ρ := [.dat d false, .dat (.int n) false, .no]) (by simp [lenS hd]) (by omega)
  generalize hR : (List.range (as ++ x :: bs).length).map natD = L at g hrg
  rcases hd with rfl | rfl <;> simp [-cRange1_ap, t_make_overrides, hrg, g]
theorem v_make_no (k n : Nat) {d : PyData} (h : ∀ ds, d ≠ .list ds ∧ d ≠ .tuple ds) : Ev (k + 1) f_make_overrides [d, .int n] = .exc "InvalidOverrides" [.int (-1)] := by
  refine (e_make_overrides k _).trans ?_
  generalize Ev k = Φ
  cases d <;> first | exact absurd rfl (h _).1 | exact absurd rfl (h _).2 | simp [t_make_overrides, fl_ovs]
theorem u_refused (Φ : Ph) (d n : PyData) (i : Int) (h : Φ f_make_overrides [d, n] = .exc "InvalidOverrides" [.int i]) : runC (t__law_refused Φ) N__law_refused P__law_refused [d, n] = .ok (.int i) := by
  simp [t__law_refused, h]
  rfl
/-! is_overrides -/
theorem ov_pr (n : Nat) (p : NP) : ovB n (prN p) = (decide (p.1 < n) && (decide (p.2 < n) && decide (p.1 ≠ p.2))) := by
  obtain ⟨a, b⟩ := p
  have e : decide ((a : Int) ≠ b) = decide (a ≠ b) := decide_eq_decide.mpr (by constructor <;> intro z <;> omega)
  have e1 : decide ((a : Int) < (n : Int)) = decide (a < n) := decide_eq_decide.mpr Int.ofNat_lt
  have e2 : decide ((b : Int) < (n : Int)) = decide (b < n) := decide_eq_decide.mpr Int.ofNat_lt
  show (decide (0 ≤ (a : Int)) && decide ((a : Int) < n) && (decide (0 ≤ (b : Int)) && decide ((b : Int) < n) && decide ((a : Int) ≠ b))) = _
  rw [e, e1, e2]
  have z1 : decide (0 ≤ (a : Int)) = true := decide_eq_true (by omega)
  have z2 : decide (0 ≤ (b : Int)) = true := decide_eq_true (by omega)
  rw [z1, z2]
  simp
def OvP (n : Nat) (p : NP) : Prop := p.1 < n ∧ p.2 < n ∧ p.1 ≠ p.2
theorem ov_ok {n : Nat} {p : NP} (h : OvP n p) : ovB n (prN p) = true := by
  rw [ov_pr]
  simp [h.1, h.2.1, h.2.2]
theorem u_is_ovs_body (Φ : Ph) (n : Nat) (h : ∀ d, Φ f_is_override [d, .int n] = .ok (.bool (ovB n d))) (d x : PyData) (i : Nat) (e : ixD d (.int i) = .ok x) (y : PyData) (b : Bool) (hy : 0 < i → ixD d (.int ((i : Int) - 1)) = .ok y ∧ (ovB n x = true → ltD y x = .ok (.bool b))) : b_is_overrides_0 Φ [.dat d false, .dat (.int n) false, .dat (natD i) false] = if ovB n x = true ∧ (0 < i → b = true) then .nx [.dat d false, .dat (.int n) false, .dat (natD i) false] else .rt (.bool false) := by
  have hx := h x
  unfold natD
  cases hb : ovB n x with
  | false => simp [b_is_overrides_0, e, hx, hb]
  | true =>
    by_cases hi : 0 < i
    · obtain ⟨y1, y2⟩ := hy hi
      have y3 := y2 hb
      cases b <;> simp [b_is_overrides_0, e, hx, hb, hi, y1, y3]
    · have hi' : i = 0 := by omega
      subst hi'
      simp at e
      simp [b_is_overrides_0, e, hx, hb]
/-- ascending neighbours -/
def adjB (l : List NP) : Bool := (List.range l.length).all fun i => decide (i = 0) || match l[i - 1]?, l[i]? with
  | some p, some q => !leN q p
  | _, _ => false
theorem v_is_ovs (k n : Nat) (l : List NP) (hl : l.length ≤ 1000) (h : ∀ p ∈ l, OvP n p) : Ev (k + 3) f_is_overrides [.tuple (l.map prN), .int n] = .ok (.bool (adjB l)) := by
  refine (e_is_overrides (k + 2) _).trans ?_
  have h1 := fun d => v_is_override k n d
  generalize Ev (k + 2) = Φ at h1
  have hstep : ∀ i, i < l.length → b_is_overrides_0 Φ [.dat (.tuple (l.map prN)) false, .dat (.int n) false, .dat (natD i) false] = if (decide (i = 0) || match l[i - 1]?, l[i]? with | some p, some q => !leN q p | _, _ => false) = true then .nx [.dat (.tuple (l.map prN)) false, .dat (.int n) false, .dat (natD i) false] else .rt (.bool false) := by
    intro i hi
    have hj : i - 1 < l.length := by omega
    have e1 : l[i]? = some l[i] := List.getElem?_eq_getElem hi
    have e2 : l[i - 1]? = some l[i - 1] := List.getElem?_eq_getElem hj
    have a1 : ixD (.tuple (l.map prN)) (.int i) = .ok (prN l[i]) := ixT_nat (by rw [List.getElem?_map, e1]; rfl)
    rw [u_is_ovs_body Φ n h1 (.tuple (l.map prN)) (prN l[i]) i a1 (prN l[i - 1]) (!leN l[i] l[i - 1]) (by
      intro hi0
      refine ⟨?_, fun _ => ltD_prN _ _⟩
      rw [show (i : Int) - 1 = ((i - 1 : Nat) : Int) by omega]
      exact ixT_nat (by rw [List.getElem?_map, e2]; rfl))]
    rw [ov_ok (h _ (List.getElem_mem hi)), e1, e2]
    by_cases h0 : i = 0
    · simp [h0]
    · have : 0 < i := by omega
      simp [h0, this]
  have hrg := cRange1_nat (n := l.length) (a := c1 lenD (cVarB 0)) (ρ := [.dat (.tuple (l.map prN)) false, .dat (.int n) false, .no]) (by simp) (by omega)
  have g := forL_or natD (fun done ρ => ∃ y, ρ = [.dat (.tuple (l.map prN)) false, .dat (.int n) false, y] ∧ ∀ i ∈ done, (decide (i = 0) || match l[i - 1]?, l[i]? with | some p, some q => !leN q p | _, _ => false) = true) (fun r => r = .rt (.bool false) ∧ adjB l = false) (i := 2) (b := b_is_overrides_0 Φ) (List.range l.length) (by
    rintro done i rest ρ e ⟨y, rfl, hd⟩
    obtain ⟨hi, he⟩ := range_at e
    have hi' : i < l.length := by omega
    have hb := hstep i hi'
    by_cases hc : (decide (i = 0) || match l[i - 1]?, l[i]? with | some p, some q => !leN q p | _, _ => false) = true
    · left
      rw [if_pos hc] at hb
      refine ⟨_, .inl hb, _, rfl, ?_⟩
      intro j hj
      rcases List.mem_append.mp hj with hj | hj
      · exact hd j hj
      · rw [List.mem_singleton.mp hj]; exact hc
    · right
      rw [if_neg hc] at hb
      show Stop (b_is_overrides_0 Φ [.dat (.tuple (l.map prN)) false, .dat (.int n) false, .dat (natD i) false]) ∧ _
      rw [show b_is_overrides_0 Φ ([.dat (.tuple (l.map prN)) false, .dat (.int n) false, y].set 2 (.dat (natD i) false)) = _ from hb, hb]
      refine ⟨.inl ⟨_, rfl⟩, rfl, ?_⟩
      unfold adjB
      rw [List.all_eq_false]
      exact ⟨i, by simpa using hi', hc⟩) (ρ := [.dat (.tuple (l.map prN)) false, .dat (.int n) false, .no]) ⟨_, rfl, by simp⟩
  rcases g with ⟨ρ', g1, y, rfl, g2⟩ | ⟨_, g1, g2⟩
  · have : adjB l = true := by
      unfold adjB
      rw [List.all_eq_true]
      exact g2
    rw [this]
    generalize hR : (List.range l.length).map natD = L at g1 hrg
    generalize l.map prN = LP at g1 hrg ⊢
    simp [-cRange1_ap, t_is_overrides, hrg, g1]
  · rw [g2]
    generalize hR : (List.range l.length).map natD = L at g1 hrg
    generalize l.map prN = LP at g1 hrg ⊢
    simp [-cRange1_ap, t_is_overrides, hrg, g1]
end Pv.K44


namespace Pv.K44
open PySem PySem.Spec L2
open PyProof.Rows hiding St

/-! ### made right -/
theorem adj_iff (l : List NP) : adjB l = true ↔ ∀ i p q, l[i]? = some p → l[i + 1]? = some q → leN q p = false := by
  unfold adjB
  rw [List.all_eq_true]
  constructor
  · intro h i p q h1 h2
    obtain ⟨hl, _⟩ := List.getElem?_eq_some_iff.mp h2
    have := h (i + 1) (by simpa using hl)
    rw [h2, show i + 1 - 1 = i by omega, h1] at this
    simpa using this
  · intro h i hi
    have hi : i < l.length := by simpa using hi
    by_cases h0 : i = 0
    · simp [h0]
    · have e1 : l[i - 1]? = some l[i - 1] := List.getElem?_eq_getElem (by omega)
      have e2 : l[i]? = some l[i] := List.getElem?_eq_getElem hi
      rw [e1, e2]
      have := h (i - 1) _ _ e1 (by rw [show i - 1 + 1 = i by omega]; exact e2)
      simp [this]
theorem asc_adj {l : List NP} (h : AscA leN l) : adjB l = true := by
  rw [adj_iff]
  intro i p q h1 h2
  obtain ⟨hl2, e2⟩ := List.getElem?_eq_some_iff.mp h2
  obtain ⟨hl1, e1⟩ := List.getElem?_eq_some_iff.mp h1
  have := List.pairwise_iff_getElem.mp h i (i + 1) hl1 hl2 (by omega)
  rw [e1, e2] at this
  cases hq : leN q p with
  | false => rfl
  | true => exact absurd (ordN.anti this.1 hq) this.2
theorem adj_no {a b : List NP} {p q : NP} (h : leN q p = true) : adjB (a ++ p :: q :: b) = false := by
  rw [← Bool.not_eq_true, adj_iff]
  intro z
  have := z a.length p q (by simp) (by simp)
  rw [h] at this
  cases this
theorem leN_refl (p : NP) : leN p p = true := by
  unfold leN
  exact decide_eq_true (by omega)
theorem v_is_ovs_bad (k n : Nat) {l : List NP} {x : PyData} {rest : List PyData} (hl : (l.map prN ++ x :: rest).length ≤ 1000) (h : ∀ p ∈ l, OvP n p) (ha : AscA leN l) (hx : ovB n x = false) : Ev (k + 3) f_is_overrides [.tuple (l.map prN ++ x :: rest), .int n] = .ok (.bool false) := by
  refine (e_is_overrides (k + 2) _).trans ?_
  have h1 := fun d => v_is_override k n d
  generalize Ev (k + 2) = Φ at h1
  have adj := (adj_iff l).mp (asc_adj ha)
  have hlen : (l.map prN ++ x :: rest).length = l.length + (rest.length + 1) := by simp
  obtain ⟨l2, hl2⟩ := range_split (m := l.length) (n := (l.map prN ++ x :: rest).length) (by omega)
  obtain ⟨D, hD⟩ : ∃ D, PyData.tuple (l.map prN ++ x :: rest) = D := ⟨_, rfl⟩
  have at1 : ∀ i, (hi : i < l.length) → ixD D (.int i) = .ok (prN l[i]) := by
    intro i hi
    rw [← hD]
    exact ixT_nat (by rw [List.getElem?_append_left (by simpa using hi)]; simp [hi])
  have atx : ixD D (.int l.length) = .ok x := by
    rw [← hD]
    exact ixT_nat (by rw [List.getElem?_append_right (by simp)]; simp)
  have ln : lenD D = .ok (.int ((l.map prN ++ x :: rest).length : Nat)) := by rw [← hD]; rfl
  have ht : isiD ["tuple"] D = .ok (.bool true) := by rw [← hD]; rfl
  have hstep : ∀ i, (hi : i < l.length) → b_is_overrides_0 Φ [.dat D false, .dat (.int n) false, .dat (natD i) false] = .nx [.dat D false, .dat (.int n) false, .dat (natD i) false] := by
    intro i hi
    have hj : i - 1 < l.length := by omega
    rw [u_is_ovs_body Φ n h1 D (prN l[i]) i (at1 i hi) (prN l[i - 1]) (!leN l[i] l[i - 1]) (by
      intro hi0
      refine ⟨?_, fun _ => ltD_prN _ _⟩
      rw [show (i : Int) - 1 = ((i - 1 : Nat) : Int) by omega]
      exact at1 _ hj)]
    rw [ov_ok (h _ (List.getElem_mem hi)), if_pos]
    refine ⟨rfl, fun h0 => ?_⟩
    have := adj (i - 1) l[i - 1] l[i] (List.getElem?_eq_getElem hj) (by rw [show i - 1 + 1 = i by omega]; exact List.getElem?_eq_getElem hi)
    rw [this]; rfl
  have hbad : b_is_overrides_0 Φ [.dat D false, .dat (.int n) false, .dat (natD l.length) false] = .rt (.bool false) := by
    by_cases h0 : 0 < l.length
    · have hj : l.length - 1 < l.length := by omega
      rw [u_is_ovs_body Φ n h1 D x l.length atx (prN l[l.length - 1]) false (by
        intro _
        refine ⟨?_, fun z => by rw [hx] at z; cases z⟩
        rw [show (l.length : Int) - 1 = ((l.length - 1 : Nat) : Int) by omega]
        exact at1 _ hj)]
      rw [hx, if_neg (by simp)]
    · rw [u_is_ovs_body Φ n h1 D x l.length atx .none false (fun z => absurd z h0)]
      rw [hx, if_neg (by simp)]
  have g := forL_stop natD (fun y => [.dat D false, .dat (.int n) false, y]) (i := 2) (b := b_is_overrides_0 Φ) (List.range l.length) l2 l.length _ (fun x y => rfl) (by
    intro i hi
    exact hstep i (by simpa using hi)) hbad (.inl ⟨_, rfl⟩) .no
  rw [← hl2] at g
  have hrg := cRange1_nat (n := (l.map prN ++ x :: rest).length) (a := c1 lenD (cVarB 0)) (ρ := [.dat D false, .dat (.int n) false, .no]) (by simp [ln]) (by omega)
  generalize hR : (List.range (l.map prN ++ x :: rest).length).map natD = L at g hrg
  subst hD
  generalize l.map prN ++ x :: rest = DD at *
  simp [-cRange1_ap, t_is_overrides, hrg, g]
theorem v_is_ovs_no (k n : Nat) {d : PyData} (h : ∀ ds, d ≠ .tuple ds) : Ev (k + 1) f_is_overrides [d, .int n] = .ok (.bool false) := by
  refine (e_is_overrides k _).trans ?_
  generalize Ev k = Φ
  cases d <;> first | exact absurd rfl (h _) | simp [t_is_overrides]
/-- the uppers of a number -/
def ups (P : List NP) (m : Nat) : List Nat := (P.filter fun p => decide (p.2 = m)).map (·.1)
def nsD (l : List Nat) : PyData := .tuple (l.map natD)
def pvD (P : List NP) : PyData := .tuple (P.map prN)
theorem v_overriders (k : Nat) (P : List NP) (m : Nat) : Ev (k + 1) f_overriders [pvD P, .int m] = .ok (nsD (ups P m)) := by
  refine (e_overriders k _).trans ?_
  generalize Ev k = Φ
  have hq := compL_on2 (fun p : NP => .int p.1) (fun p : NP => .int p.2) (fun p => decide (p.2 = m)) (fun p => natD p.1) (i := 2) (j := 3) (t := q_overriders_0 Φ) (e := c_overriders_0 Φ) (ρ := [.dat (pvD P) false, .dat (.int m) false, .no, .no]) (l := P) (by
    intro p _
    refine ⟨?_, fun _ => by simp [c_overriders_0, natD]⟩
    have : decide ((p.2 : Int) = m) = decide (p.2 = m) := decide_eq_decide.mpr (by constructor <;> intro z <;> omega)
    simp [q_overriders_0]
    omega)
  have e : (P.filter fun p => decide (p.2 = m)).map (fun p => natD p.1) = (ups P m).map natD := by unfold ups; rw [List.map_map]; rfl
  rw [e] at hq
  have e2 : (P.map fun a : NP => PyData.tuple [.int a.1, .int a.2]) = P.map prN := rfl
  rw [e2] at hq
  unfold pvD nsD at *
  generalize P.map prN = PD at *
  generalize (ups P m).map natD = U at *
  simp [t_overriders, hq]
theorem u_made_body0 (Φ : Ph) (R P : List PyData) (n a : Nat) (W : List PyData) (i : Nat) (x z : PyData) (s2 s4 s8 s9 s10 : Sl) (lR : R.length ≤ 100) (lP : P.length ≤ 100) (hx : ixD (.list W) (.int i) = .ok x) (hz : ixD (.list W) (.int (((i : Int) + 3) % 10)) = .ok z)
    (h1 : Φ f__law_refused [.list (R.take a ++ x :: z :: R.drop a), .int n] = .ok (.int a)) (h2 : Φ f_is_overrides [.tuple (P.take a ++ x :: P.drop a), .int n] = .ok (.bool false)) :
    b__law_made_right_0 Φ [.dat (.list R) false, .dat (.int n) false, s2, .dat (.tuple P) false, s4, .dat (.int a) false, .dat (.list W) true, .dat (natD i) false, s8, s9, s10] = .nx [.dat (.list R) false, .dat (.int n) false, s2, .dat (.tuple P) false, s4, .dat (.int a) false, .dat (.list W) true, .dat (natD i) false, s8, s9, s10] := by
  have z0 : sizeLine = 16777216 := rfl
  have m := modD_int ((i : Int) + 3) (j := 10) (by decide)
  have c1 := cutD_to R a
  have c2 := cutD_from R a
  have c3 := cutD_to P a
  have c4 := cutD_from P a
  have l1 : (R.take a).length ≤ 100 := by rw [List.length_take]; omega
  have l2 : (R.drop a).length ≤ 100 := by rw [List.length_drop]; omega
  have l3 : (P.take a).length ≤ 100 := by rw [List.length_take]; omega
  have l4 : (P.drop a).length ≤ 100 := by rw [List.length_drop]; omega
  generalize R.take a = A1 at *
  generalize R.drop a = A2 at *
  generalize P.take a = A3 at *
  generalize P.drop a = A4 at *
  have a1 : addD (.list A1) (.list [x, z]) = .ok (.list (A1 ++ [x, z])) := addL _ _ (by simp; omega)
  have a2 : addD (.list (A1 ++ [x, z])) (.list A2) = .ok (.list (A1 ++ x :: z :: A2)) := by rw [addL _ _ (by simp; omega)]; simp
  have a3 : addD (.tuple A3) (.tuple [x]) = .ok (.tuple (A3 ++ [x])) := addT _ _ (by simp; omega)
  have a4 : addD (.tuple (A3 ++ [x])) (.tuple A4) = .ok (.tuple (A3 ++ x :: A4)) := by rw [addT _ _ (by simp; omega)]; simp
  generalize A1 ++ x :: z :: A2 = B1 at *
  generalize A3 ++ x :: A4 = B2 at *
  have hb : isntD (.bool false) (.bool false) = .ok (.bool false) := rfl
  unfold b__law_made_right_0 natD
  rw [seq_nx (ρ' := [.dat (.list R) false, .dat (.int n) false, s2, .dat (.tuple P) false, s4, .dat (.int a) false, .dat (.list W) true, .dat (.int i) false, s8, s9, s10]) (by simp [m, hx, hz, c1, c2, a1, a2, h1])]
  simp [hx, c3, c4, a3, a4, h2, hb]
def wrongL (n : Nat) : List PyData := [.tuple [.int 0, .int 0], .tuple [.int n, .int 0], .tuple [.int 0, .int (-1)], .list [.int 0, .int 1], .tuple [.int 0], .tuple [.int 0, .int 1, .int 2], .tuple [.bool true, .int 0], .none, .tuple [.str "0", .int 1], .tuple [.int 1, .none]]
theorem wrong_no (n : Nat) : ∀ d ∈ wrongL n, ovB n d = false := by
  intro d hd
  simp only [wrongL, List.mem_cons, List.not_mem_nil, or_false] at hd
  rcases hd with rfl | rfl | rfl | rfl | rfl | rfl | rfl | rfl | rfl | rfl <;> first | rfl | simp [ovB, okB]
end Pv.K44


namespace Pv.K44
open PySem PySem.Spec L2
open PyProof.Rows hiding St

/-! ### made right, the rest -/
theorem u_made_body1 (Φ : Ph) (n : Nat) (x : PyData) (b : Bool) (s0 s2 s3 s4 s5 s6 s7 s9 s10 : Sl) (h1 : Φ f_is_overrides [x, .int n] = .ok (.bool b)) (h2 : eqD x (.tuple []) = .ok (.bool b)) (h3 : Φ f__law_equal [.bool b, .bool b] = .ok (.bool true)) :
    b__law_made_right_1 Φ [s0, .dat (.int n) false, s2, s3, s4, s5, s6, s7, .dat x false, s9, s10] = .nx [s0, .dat (.int n) false, s2, s3, s4, s5, s6, s7, .dat x false, s9, s10] := by
  simp [b__law_made_right_1, h1, h2, h3]
theorem u_made_body2 (Φ : Ph) (P : List NP) (m : Nat) (s0 s1 s2 s4 s5 s6 s7 s8 : Sl) (h1 : Φ f_overriders [pvD P, .int m] = .ok (nsD (ups P m))) (h3 : Φ f__law_equal [nsD (ups P m), nsD (ups P m)] = .ok (.bool true)) :
    b__law_made_right_2 Φ [s0, s1, s2, .dat (pvD P) false, s4, s5, s6, s7, s8, .dat (natD m) false, .no] = .nx [s0, s1, s2, .dat (pvD P) false, s4, s5, s6, s7, s8, .dat (natD m) false, .no] := by
  have hq := compL_on prN (fun p => decide (p.2 = m)) (fun p => natD p.1) (i := 10) (t := q__law_made_right_0 Φ) (e := c__law_made_right_0 Φ) (ρ := [s0, s1, s2, .dat (pvD P) false, s4, s5, s6, s7, s8, .dat (natD m) false, .no]) (l := P) (by
    intro p _
    generalize pvD P = PD
    have h1 : ixD (prN p) (.int 1) = .ok (.int p.2) := ixT_1 ..
    have h0 : ixD (prN p) (.int 0) = .ok (.int p.1) := ixT_0 ..
    refine ⟨?_, fun _ => by simp [c__law_made_right_0, natD, h0]⟩
    simp [q__law_made_right_0, natD, h1]
    omega)
  have e : (P.filter fun p => decide (p.2 = m)).map (fun p => natD p.1) = (ups P m).map natD := by unfold ups; rw [List.map_map]; rfl
  rw [e] at hq
  have ei : itD (pvD P) = .ok (P.map prN) := rfl
  have en : nsD (ups P m) = .tuple ((ups P m).map natD) := rfl
  rw [en] at h1 h3
  generalize pvD P = PD at *
  generalize (ups P m).map natD = U at *
  generalize P.map prN = PL at *
  simp only [natD] at *
  simp [b__law_made_right_2, h1, ei, hq, h3]
theorem eq_unit_list (ds : List PyData) (h : shal (.list ds) (.tuple []) = true) : eqD (.list ds) (.tuple []) = .ok (.bool false) := by
  unfold eqD
  rw [if_pos h]; rfl
theorem shal_unit (d : PyData) (h : noDic d = true) : shal d (.tuple []) = true := by
  simp [shal, PyData.depth, PyData.depthAll, h]
  omega
theorem eq_unit (d : PyData) (h : noDic d = true) : eqD d (.tuple []) = .ok (.bool (PyData.eqv d (.tuple []))) := if_pos (shal_unit d h)
theorem nd_tup (P : List NP) : noDic (.tuple (P.map prN)) = true := by
  simp [encN.noDics P]
theorem nd_lst (P : List NP) : noDic (.list (P.map prN)) = true := by
  simp [encN.noDics P]
theorem eqv_unit_t (P : List NP) : PyData.eqv (.tuple (P.map prN)) (.tuple []) = decide (P = []) := by
  cases P <;> rfl
theorem eqv_unit_l (P : List NP) : PyData.eqv (.list (P.map prN)) (.tuple []) = false := by
  cases P <;> rfl
theorem plain_pn (n : Nat) (p : NP) : plainD (n + 2) (prN p) = true := plain_tup (n := n + 1) (by simp) (by simp [plainD])
theorem plain_pv (n : Nat) {P : List NP} (h : P.length ≤ 1000) : plainD (n + 3) (pvD P) = true := plain_tup (by rw [List.length_map]; omega) fun d hd => by
  obtain ⟨x, _, rfl⟩ := List.mem_map.mp hd
  exact plain_pn n x
theorem plain_pl (n : Nat) {P : List NP} (h : P.length ≤ 1000) : plainD (n + 3) (.list (P.map prN)) = true := plain_lst (by rw [List.length_map]; omega) fun d hd => by
  obtain ⟨x, _, rfl⟩ := List.mem_map.mp hd
  exact plain_pn n x
theorem plain_ns (n : Nat) {l : List Nat} (h : l.length ≤ 1000) : plainD (n + 2) (nsD l) = true := plain_tup (by rw [List.length_map]; omega) fun d hd => by
  obtain ⟨x, _, rfl⟩ := List.mem_map.mp hd
  rfl
theorem flats_all : ∀ {l : List PyData}, (∀ d ∈ l, flat d = true) → flat.flats l = true
  | [], _ => rfl
  | d :: l, h => by
    rw [flats_cons, h d List.mem_cons_self, flats_all fun x hx => h x (List.mem_cons_of_mem _ hx)]; rfl
theorem flat_pv (P : List NP) : flat (pvD P) = true := by
  show flat.flats (P.map prN) = true
  refine flats_all fun d hd => ?_
  obtain ⟨x, _, rfl⟩ := List.mem_map.mp hd
  rfl
/-- rows and what is made of them -/
def mkP (rows : List NP) : List NP := distA leN rows
theorem mkP_asc (rows : List NP) : AscA leN (mkP rows) := (distA_ok ordN rows).1
theorem mkP_mem (rows : List NP) (p : NP) : p ∈ mkP rows ↔ p ∈ rows := (distA_ok ordN rows).2 p
theorem v__law_made_right (k n : Nat) (rows : List NP) (dr : PyData) (x0 : Int) (hl : rows.length ≤ 24) (hok : ∀ p ∈ rows, OvP n p) (hn : n ≤ 16) (hd : ixD dr (.int 0) = .ok (.int x0)) : Ev (k + 8) f__law_made_right [.list (rows.map prN), .int n, dr] = .ok (.bool true) := by
  refine (e__law_made_right (k + 7) _).trans ?_
  have hpl : (mkP rows).length ≤ 24 := by have := distA_le leN rows; unfold mkP; omega
  have hpok : ∀ p ∈ mkP rows, OvP n p := fun p hp => hok p ((mkP_mem rows p).mp hp)
  have hasc := mkP_asc rows
  have a1 : Ev (k + 7) f__law_sorted [.list (rows.map prN)] = .ok (pvD (mkP rows)) := v_law_sortedA encN (k + 6) rows (by omega)
  have ovs : ∀ x ∈ rows.map prN, ovB n x = true := by
    intro x hx
    obtain ⟨p, hp, rfl⟩ := List.mem_map.mp hx
    exact ov_ok (hok p hp)
  have a2 : Ev (k + 7) f_make_overrides [.list (rows.map prN), .int n] = .ok (pvD (mkP rows)) := v_make_ok (k + 4) n (.inl rfl) (by rw [List.length_map]; omega) ovs _ (v_distA encN (k + 5) rows (by omega) (.inl rfl))
  have a3 : Ev (k + 7) f_make_overrides [.tuple (rows.map prN), .int n] = .ok (pvD (mkP rows)) := v_make_ok (k + 4) n (.inr rfl) (by rw [List.length_map]; omega) ovs _ (v_distA encN (k + 5) rows (by omega) (.inr rfl))
  have a4 : Ev (k + 7) f_is_overrides [pvD (mkP rows), .int n] = .ok (.bool true) := by
    have := v_is_ovs (k + 4) n (mkP rows) (by omega) hpok
    rw [asc_adj hasc] at this
    exact this
  have q1 : Ev (k + 7) f__law_equal [pvD (mkP rows), pvD (mkP rows)] = .ok (.bool true) := v_equal 3 (k + 4) _ (plain_pv 0 (by omega))
  have q2 : Ev (k + 7) f__law_equal [.list (rows.map prN), .list (rows.map prN)] = .ok (.bool true) := v_equal 3 (k + 4) _ (plain_pl 0 (by omega))
  have qb : ∀ b : Bool, Ev (k + 7) f__law_equal [.bool b, .bool b] = .ok (.bool true) := fun b => v_equal 1 (k + 6) _ rfl
  have r1 : ∀ (a : Nat) (x z : PyData), a ≤ rows.length → ovB n x = false → Ev (k + 7) f__law_refused [.list ((rows.map prN).take a ++ x :: z :: (rows.map prN).drop a), .int n] = .ok (.int a) := by
    intro a x z ha hx
    have hlen : ((rows.map prN).take a).length = a := by rw [List.length_take, List.length_map]; omega
    have := v_make_bad (k + 3) n (d := .list ((rows.map prN).take a ++ x :: (z :: (rows.map prN).drop a))) (.inl rfl) (by simp; omega) (fun y hy => ovs y (List.mem_of_mem_take hy)) hx
    rw [hlen] at this
    exact (e__law_refused (k + 6) _).trans (u_refused _ _ _ _ this)
  have r2 : ∀ (a : Nat) (x : PyData), ovB n x = false → Ev (k + 7) f_is_overrides [.tuple (((mkP rows).map prN).take a ++ x :: ((mkP rows).map prN).drop a), .int n] = .ok (.bool false) := by
    intro a x hx
    have := v_is_ovs_bad (k + 4) n (l := (mkP rows).take a) (x := x) (rest := ((mkP rows).map prN).drop a) (by simp; omega) (fun p hp => hpok p (List.mem_of_mem_take hp)) (hasc.sublist (List.take_sublist _ _)) hx
    rw [List.map_take] at this
    exact this
  have r3 : ∀ d : PyData, (∀ ds, d ≠ .list ds ∧ d ≠ .tuple ds) → Ev (k + 7) f__law_refused [d, .int n] = .ok (.int (-1)) := fun d hd => (e__law_refused (k + 6) _).trans (u_refused _ _ _ _ (v_make_no (k + 5) n hd))
  have vals : ∀ x ∈ ([.list ((mkP rows).map prN), .tuple ((mkP rows).map prN ++ ((mkP rows).map prN).take 1), .tuple (((mkP rows).map prN).reverse ++ (mkP rows).map prN), .none] : List PyData), ∃ b : Bool, Ev (k + 7) f_is_overrides [x, .int n] = .ok (.bool b) ∧ eqD x (.tuple []) = .ok (.bool b) := by
    intro x hx
    simp only [List.mem_cons, List.not_mem_nil, or_false] at hx
    rcases hx with rfl | rfl | rfl | rfl
    · exact ⟨false, v_is_ovs_no (k + 6) n (by intro ds h; cases h), by rw [eq_unit _ (nd_lst _), eqv_unit_l]⟩
    · have e : (mkP rows).map prN ++ ((mkP rows).map prN).take 1 = (mkP rows ++ (mkP rows).take 1).map prN := by rw [List.map_append, List.map_take]
      rw [e]
      refine ⟨_, v_is_ovs (k + 4) n (mkP rows ++ (mkP rows).take 1) (by simp; omega) (fun p hp => ?_), ?_⟩
      · rcases List.mem_append.mp hp with hp | hp
        · exact hpok p hp
        · exact hpok p (List.mem_of_mem_take hp)
      · rw [eq_unit _ (nd_tup _), eqv_unit_t]
        congr 2
        cases hr : mkP rows with
        | nil => rfl
        | cons p l =>
          rw [decide_eq_false (by simp)]
          rcases List.eq_nil_or_concat l with rfl | ⟨l', q, rfl⟩
          · exact (adj_no (a := []) (b := []) (leN_refl p)).symm
          · rw [List.concat_eq_append]
            have hle : leN p q = true := by
              rw [hr, List.concat_eq_append] at hasc
              exact ((List.pairwise_cons.mp hasc).1 q (by simp)).1
            have := adj_no (a := p :: l') (b := []) hle
            simpa using this.symm
    · have e : ((mkP rows).map prN).reverse ++ (mkP rows).map prN = ((mkP rows).reverse ++ mkP rows).map prN := by rw [List.map_append, List.map_reverse]
      rw [e]
      refine ⟨_, v_is_ovs (k + 4) n ((mkP rows).reverse ++ mkP rows) (by simp; omega) (fun p hp => ?_), ?_⟩
      · rcases List.mem_append.mp hp with hp | hp
        · exact hpok p (List.mem_reverse.mp hp)
        · exact hpok p hp
      · rw [eq_unit _ (nd_tup _), eqv_unit_t]
        congr 2
        cases hr : mkP rows with
        | nil => rfl
        | cons p l =>
          rw [decide_eq_false (by simp)]
          have := adj_no (a := l.reverse) (b := l) (leN_refl p)
          simpa using this.symm
    · exact ⟨false, v_is_ovs_no (k + 6) n (by intro ds h; cases h), rfl⟩
  have ov := fun m => v_overriders (k + 6) (mkP rows) m
  have qn : ∀ m, Ev (k + 7) f__law_equal [nsD (ups (mkP rows) m), nsD (ups (mkP rows) m)] = .ok (.bool true) := fun m => v_equal 2 (k + 5) _ (plain_ns 0 (by
    have := List.length_filter_le (fun p : NP => decide (p.2 = m)) (mkP rows)
    unfold ups
    rw [List.length_map]; omega))
  generalize Ev (k + 7) = Φ at *
  generalize hP : mkP rows = P at *
  have hRl : (rows.map prN).length = rows.length := List.length_map ..
  obtain ⟨a, ha, hm⟩ : ∃ a : Nat, a ≤ rows.length ∧ modD (.int x0) (.int ((rows.length : Int) + 1)) = .ok (.int a) := by
    have h0 : 0 ≤ x0 % ((rows.length : Int) + 1) := Int.emod_nonneg _ (by omega)
    have h1 : x0 % ((rows.length : Int) + 1) < (rows.length : Int) + 1 := Int.emod_lt_of_pos _ (by omega)
    obtain ⟨a, e⟩ := Int.eq_ofNat_of_zero_le h0
    exact ⟨a, by omega, by rw [modD_int x0 (by omega), e]⟩
  have lenR : lenD (.list (rows.map prN)) = .ok (.int rows.length) := by show R.ok (PyData.int ((rows.map prN).length : Nat)) = _; rw [hRl]
  have ePv : pvD P = .tuple (P.map prN) := rfl
  have lP : (P.map prN).length ≤ 100 := by rw [List.length_map]; omega
  have lR : (rows.map prN).length ≤ 100 := by omega
  rw [run_of (ρ := [.dat (.list (rows.map prN)) false, .dat (.int n) false, .dat dr false, .no, .no, .no, .no, .no, .no, .no, .no]) rfl rfl]
  unfold t__law_made_right
  generalize hRR : rows.map prN = R at *
  rw [seq_nx (ρ' := [.dat (.list R) false, .dat (.int n) false, .dat dr false, .dat (pvD P) false, .no, .no, .no, .no, .no, .no, .no]) (by simp [a1])]
  rw [seq_nx (ρ' := [.dat (.list R) false, .dat (.int n) false, .dat dr false, .dat (pvD P) false, .dat (.list R) true, .no, .no, .no, .no, .no, .no]) (by simp)]
  rw [seq_nx (ρ' := [.dat (.list R) false, .dat (.int n) false, .dat dr false, .dat (pvD P) false, .dat (.list R) true, .no, .no, .no, .no, .no, .no]) (by
    have fl := flat_pv P
    generalize pvD P = PD at *
    simp [a2, q1, q2, fl])]
  rw [seq_nx (ρ' := [.dat (.list R) false, .dat (.int n) false, .dat dr false, .dat (pvD P) false, .dat (.list R) true, .no, .no, .no, .no, .no, .no]) (by
    have hb : isntD (.bool true) (.bool true) = .ok (.bool false) := rfl
    generalize pvD P = PD at *
    simp [a3, q1, a4, hb])]
  rw [seq_nx (ρ' := [.dat (.list R) false, .dat (.int n) false, .dat dr false, .dat (pvD P) false, .dat (.list R) true, .dat (.int a) false, .no, .no, .no, .no, .no]) (by
    generalize pvD P = PD at *
    simp [hd, lenR, hm, -lenD_list])]
  rw [seq_nx (ρ' := [.dat (.list R) false, .dat (.int n) false, .dat dr false, .dat (pvD P) false, .dat (.list R) true, .dat (.int a) false, .dat (.list (wrongL n)) true, .no, .no, .no, .no]) (by
    generalize pvD P = PD at *
    simp [wrongL])]
  obtain ⟨y7, g1⟩ := forL_same natD (fun y => [.dat (.list R) false, .dat (.int n) false, .dat dr false, .dat (pvD P) false, .dat (.list R) true, .dat (.int a) false, .dat (.list (wrongL n)) true, y, .no, .no, .no]) (i := 7) (b := b__law_made_right_0 Φ) (List.range 10) (fun x y => rfl) (by
    intro i hi
    have hi' : i < (wrongL n).length := by
      show i < 10
      simpa using hi
    have hj : (i + 3) % 10 < (wrongL n).length := Nat.mod_lt _ (by decide)
    have x1 : ixD (.list (wrongL n)) (.int i) = .ok (wrongL n)[i] := ixL_nat (List.getElem?_eq_getElem hi')
    have z1 : ixD (.list (wrongL n)) (.int (((i : Int) + 3) % 10)) = .ok (wrongL n)[(i + 3) % 10] := by
      rw [show ((i : Int) + 3) % 10 = (((i + 3) % 10 : Nat) : Int) by omega]
      exact ixL_nat (List.getElem?_eq_getElem hj)
    have no := wrong_no n _ (List.getElem_mem hi')
    exact u_made_body0 Φ R (P.map prN) n a (wrongL n) i _ _ _ _ _ _ _ lR lP x1 z1 (r1 a _ _ (by omega) no) (r2 a _ no)) .no
  have hr := cRange1_nat (n := 10) (a := c1 lenD (cVarB 6)) (ρ := [.dat (.list R) false, .dat (.int n) false, .dat dr false, .dat (pvD P) false, .dat (.list R) true, .dat (.int a) false, .dat (.list (wrongL n)) true, .no, .no, .no, .no]) (by
    have : lenD (.list (wrongL n)) = .ok (.int 10) := rfl
    simp [this, -lenD_list]) (by decide)
  rw [seq_nx (for_nx0 hr g1)]
  obtain ⟨y8, g2⟩ := forL_same (fun x : PyData => x) (fun y => [.dat (.list R) false, .dat (.int n) false, .dat dr false, .dat (pvD P) false, .dat (.list R) true, .dat (.int a) false, .dat (.list (wrongL n)) true, y7, y, .no, .no]) (i := 8) (b := b__law_made_right_1 Φ) [.list (P.map prN), .tuple (P.map prN ++ (P.map prN).take 1), .tuple ((P.map prN).reverse ++ P.map prN), .none] (fun x y => rfl) (by
    intro x hx
    obtain ⟨b, v1, v2⟩ := vals x hx
    exact u_made_body1 Φ n x b _ _ _ _ _ _ _ _ _ v1 v2 (qb b)) .no
  rw [List.map_id'] at g2
  rw [seq_nx (for_nx0 (ds := [.list (P.map prN), .tuple (P.map prN ++ (P.map prN).take 1), .tuple ((P.map prN).reverse ++ P.map prN), .none]) (by
    have z0 : sizeLine = 16777216 := rfl
    have c1' := cutD_to (P.map prN) 1
    have ad1 : addD (.tuple (P.map prN)) (.tuple ((P.map prN).take 1)) = .ok (.tuple (P.map prN ++ (P.map prN).take 1)) := addT _ _ (by rw [List.length_take]; omega)
    have ad2 : addD (.tuple (P.map prN).reverse) (.tuple (P.map prN)) = .ok (.tuple ((P.map prN).reverse ++ P.map prN)) := addT _ _ (by rw [List.length_reverse]; omega)
    rw [ePv]
    generalize P.map prN = PL at *
    generalize (wrongL n) = WW
    have c1'' : cutD PL none (some 1) = PL.take 1 := c1'
    simp [c1'', ad1, ad2]) g2)]
  obtain ⟨y9, g3⟩ := forL_same natD (fun y => [.dat (.list R) false, .dat (.int n) false, .dat dr false, .dat (pvD P) false, .dat (.list R) true, .dat (.int a) false, .dat (.list (wrongL n)) true, y7, y8, y, .no]) (i := 9) (b := b__law_made_right_2 Φ) (List.range n) (fun x y => rfl) (by
    intro m _
    exact u_made_body2 Φ P m _ _ _ _ _ _ _ _ (ov m) (qn m)) .no
  have hr := cRange1_nat (n := n) (a := cVarB 1) (ρ := [.dat (.list R) false, .dat (.int n) false, .dat dr false, .dat (pvD P) false, .dat (.list R) true, .dat (.int a) false, .dat (.list (wrongL n)) true, y7, y8, .no, .no]) (by simp) (by omega)
  rw [seq_nx (for_nx0 hr g3)]
  have w1 := r3 .none (by intro ds; exact ⟨by simp, by simp⟩)
  have w2 := r3 (.str "ab") (by intro ds; exact ⟨by simp, by simp⟩)
  generalize pvD P = PD
  generalize wrongL n = WW
  simp [w1, w2]
end Pv.K44


namespace Pv.K44
open PySem PySem.Spec L2
open PyProof.Rows hiding St

/-! ### settle: the walk -/
abbrev Fd := Nat → Option (Bool × Nat)
def labD (b : Bool) : Str := if b = true then "stands" else "falls"
def rowD : Bool × Nat → PyData := fun y => .tuple [.str (labD y.1), .int y.2]
def rwD : Option (Bool × Nat) → PyData
  | some y => rowD y
  | none => .tuple [.str "unsettled", .int 0]
/-- the label that follows -/
def lb (F : Fd) (us : List Nat) : Option Bool := if (us.any fun u => (F u).any (·.1)) = true then some false else if (us.all fun u => (F u).isSome) = true then some true else none
def lbS : Option Bool → Str
  | some b => labD b
  | none => ""
theorem lab_ne : ("stands" : Str) ≠ "falls" ∧ ("stands" : Str) ≠ "unsettled" ∧ ("falls" : Str) ≠ "unsettled" ∧ ("stands" : Str) ≠ "" ∧ ("falls" : Str) ≠ "" := by decide +kernel
theorem mem_strs (x : Str) (l : List Str) : memD (.str x) (l.map .str) = decide (x ∈ l) := by
  unfold memD
  rw [List.any_map]
  induction l with
  | nil => rfl
  | cons y l ih =>
    rw [List.any_cons, ih]
    show (PyData.eqv (.str y) (.str x) || decide (x ∈ l)) = _
    rw [eqv_str]
    by_cases h : y = x
    · simp [h]
    · have h' : ¬ x = y := fun e => h e.symm
      simp [h, h']
theorem in_strs (x : Str) (l : List Str) : inD (.str x) (.list (l.map .str)) = .ok (.bool (decide (x ∈ l))) := by
  rw [(inD_seq (by simp [PyData.depth]) rfl (noDics_strs l)).2, mem_strs]
theorem notIn_strs (x : Str) (l : List Str) : notInD (.str x) (.list (l.map .str)) = .ok (.bool (!decide (x ∈ l))) := by
  rw [(notInD_seq (by simp [PyData.depth]) rfl (noDics_strs l)).2, mem_strs]
def labs (F : Fd) (us : List Nat) : List Str := (us.filter fun u => (F u).isSome).map fun u => match F u with | some y => labD y.1 | none => ""
theorem labs_stands (F : Fd) (us : List Nat) : decide (("stands" : Str) ∈ labs F us) = us.any fun u => (F u).any (·.1) := by
  rw [Bool.eq_iff_iff, decide_eq_true_iff, List.any_eq_true]
  unfold labs
  constructor
  · intro h
    obtain ⟨u, hu, e⟩ := List.mem_map.mp h
    obtain ⟨h1, h2⟩ := List.mem_filter.mp hu
    refine ⟨u, h1, ?_⟩
    cases hf : F u with
    | none => rw [hf] at h2; cases h2
    | some y =>
      rw [hf] at e
      obtain ⟨b, r⟩ := y
      cases b with
      | true => rfl
      | false => exact absurd e.symm lab_ne.1
  · rintro ⟨u, h1, h2⟩
    refine List.mem_map.mpr ⟨u, List.mem_filter.mpr ⟨h1, ?_⟩, ?_⟩
    · cases hf : F u with
      | none => rw [hf] at h2; cases h2
      | some y => rfl
    · cases hf : F u with
      | none => rw [hf] at h2; cases h2
      | some y =>
        obtain ⟨b, r⟩ := y
        rw [hf] at h2
        have : b = true := h2
        subst this
        rfl
theorem labs_all (F : Fd) (us : List Nat) : decide ((labs F us).length = us.length) = us.all fun u => (F u).isSome := by
  unfold labs
  rw [List.length_map, Bool.eq_iff_iff, decide_eq_true_iff, List.all_eq_true]
  exact List.length_filter_eq_length_iff
theorem u_label (Φ : Ph) (us : List Nat) (kvs : List (PyData × PyData)) (F : Fd) (h : DcN kvs fun m => (F m).map rowD) : runC (t_label_behind Φ) N_label_behind P_label_behind [nsD us, .dict kvs] = .ok (.str (lbS (lb F us))) := by
  have hq := compL_on natD (fun u => (F u).isSome) (fun u => PyData.str (match F u with | some y => labD y.1 | none => "")) (i := 3) (t := q_label_behind_0 Φ) (e := c_label_behind_0 Φ) (ρ := [.dat (nsD us) false, .dat (.dict kvs) false, .no, .no]) (l := us) (by
    intro u _
    have h1 := h.in_ u
    refine ⟨?_, ?_⟩
    · generalize nsD us = U
      simp [q_label_behind_0, natD, h1]
    · intro hs
      cases hf : F u with
      | none => rw [hf] at hs; cases hs
      | some y =>
        have h2 := h.ix (m := u) (d := rowD y) (by rw [hf]; rfl)
        have h3 : ixD (rowD y) (.int 0) = .ok (.str (labD y.1)) := ixT_0 ..
        generalize nsD us = U
        simp [c_label_behind_0, natD, h2, h3])
  have e : (us.filter fun u => (F u).isSome).map (fun u => PyData.str (match F u with | some y => labD y.1 | none => "")) = (labs F us).map .str := by unfold labs; rw [List.map_map]; rfl
  rw [e] at hq
  have h1 := in_strs "stands" (labs F us)
  rw [labs_stands] at h1
  have h2 := labs_all F us
  have ei : itD (nsD us) = .ok (us.map natD) := rfl
  have el : lenD (nsD us) = .ok (.int us.length) := by show R.ok (PyData.int ((us.map natD).length : Nat)) = _; rw [List.length_map]
  have el2 : lenD (.list ((labs F us).map .str)) = .ok (.int (labs F us).length) := by show R.ok (PyData.int (((labs F us).map PyData.str).length : Nat)) = _; rw [List.length_map]
  unfold lb
  generalize nsD us = U at *
  generalize us.map natD = UL at *
  generalize (labs F us).map PyData.str = LL at *
  generalize (us.any fun u => (F u).any (·.1)) = b1 at *
  rw [← h2]
  cases b1 with
  | true => simp [t_label_behind, ei, hq, h1, lbS, labD]
  | false =>
    by_cases hl : (labs F us).length = us.length
    · have : ((labs F us).length : Int) = us.length := by omega
      simp [t_label_behind, ei, hq, h1, el, el2, -lenD_list, this, hl, lbS, labD]
    · have : ¬ ((labs F us).length : Int) = us.length := by omega
      simp [t_label_behind, ei, hq, h1, el, el2, -lenD_list, this, hl, lbS, labD]
/-- what a round finds -/
def news (n : Nat) (P : List NP) (F : Fd) : List (Nat × Bool) := (List.range n).filterMap fun m => if (F m).isSome = true then none else (lb F (ups P m)).map fun b => (m, b)
def nwD (p : Nat × Bool) : PyData := .tuple [natD p.1, .str (labD p.2)]
def updL (r : Nat) : Fd → List (Nat × Bool) → Fd := fun F l => l.foldl (fun G p => fun x => if x = p.1 then some (p.2, r) else G x) F
def nxt (n : Nat) (P : List NP) (F : Fd) (r : Nat) : Fd := fun m => match F m with
  | some y => some y
  | none => if m < n then (lb F (ups P m)).map fun b => (b, r) else none
theorem updL_val (r : Nat) (x : Nat) : ∀ (l : List (Nat × Bool)) (F : Fd), (∀ p ∈ l, p.1 ≠ x) → updL r F l x = F x
  | [], F, _ => rfl
  | p :: l, F, h => by
    have := updL_val r x l (fun z => if z = p.1 then some (p.2, r) else F z) fun q hq => h q (List.mem_cons_of_mem _ hq)
    refine this.trans (if_neg fun e => h p List.mem_cons_self e.symm)
theorem updL_hit (r : Nat) (x : Nat) (b : Bool) : ∀ (l : List (Nat × Bool)) (F : Fd), (∀ p ∈ l, p.1 = x → p.2 = b) → ((∃ p ∈ l, p.1 = x) ∨ F x = some (b, r)) → updL r F l x = some (b, r)
  | [], F, _, h => by
    rcases h with ⟨p, hp, _⟩ | h
    · cases hp
    · exact h
  | p :: l, F, h1, h2 => by
    refine updL_hit r x b l (fun z => if z = p.1 then some (p.2, r) else F z) (fun q hq => h1 q (List.mem_cons_of_mem _ hq)) ?_
    by_cases e : x = p.1
    · right
      show (if x = p.1 then some (p.2, r) else F x) = _
      rw [if_pos e, h1 p List.mem_cons_self e.symm]
    · rcases h2 with ⟨q, hq, hx⟩ | h2
      · rcases List.mem_cons.mp hq with rfl | hq
        · exact absurd hx.symm e
        · exact .inl ⟨q, hq, hx⟩
      · exact .inr ((if_neg e).trans h2)
theorem updL_news (n : Nat) (P : List NP) (F : Fd) (r : Nat) (x : Nat) : updL r F (news n P F) x = nxt n P F r x := by
  have mem : ∀ p, p ∈ news n P F ↔ p.1 < n ∧ (F p.1).isSome = false ∧ lb F (ups P p.1) = some p.2 := by
    rintro ⟨m, b⟩
    unfold news
    rw [List.mem_filterMap]
    constructor
    · rintro ⟨a, ha, h⟩
      have ha : a < n := by simpa using ha
      split at h
      · cases h
      · rename_i hs
        obtain ⟨b', h1, h2⟩ := Option.map_eq_some_iff.mp h
        injection h2 with h2 h3
        subst h2; subst h3
        exact ⟨ha, by simpa using hs, h1⟩
    · rintro ⟨h1, h2, h3⟩
      refine ⟨m, by simpa using h1, ?_⟩
      have h2 : (F m).isSome = false := h2
      have h3 : lb F (ups P m) = some b := h3
      rw [h2, if_neg (by simp), h3]; rfl
  unfold nxt
  cases hf : F x with
  | some y =>
    rw [updL_val]
    · exact hf
    · intro p hp e
      have := ((mem p).mp hp).2.1
      rw [e, hf] at this
      cases this
  | none =>
    by_cases hx : x < n
    · show _ = if x < n then _ else _
      rw [if_pos hx]
      cases hl : lb F (ups P x) with
      | none =>
        rw [updL_val]
        · exact hf
        · intro p hp e
          have := ((mem p).mp hp).2.2
          rw [e, hl] at this
          cases this
      | some b =>
        refine updL_hit r x b _ _ ?_ (.inl ⟨(x, b), (mem _).mpr ⟨hx, by rw [hf]; rfl, hl⟩, rfl⟩)
        intro p hp e
        have := ((mem p).mp hp).2.2
        rw [e, hl] at this
        injection this with this
        exact this.symm
    · show _ = if x < n then _ else _
      rw [if_neg hx, updL_val]
      · exact hf
      · intro p hp e
        have := ((mem p).mp hp).1
        omega
theorem news_len (n : Nat) (P : List NP) (F : Fd) : (news n P F).length ≤ n := by
  have := List.length_filterMap_le (fun m => if (F m).isSome = true then none else (lb F (ups P m)).map fun b => (m, b)) (List.range n)
  rw [List.length_range] at this
  exact this
end Pv.K44


namespace Pv.K44
open PySem PySem.Spec L2
open PyProof.Rows hiding St

/-! ### settle: its loops -/
def newOf (P : List NP) (F : Fd) (m : Nat) : Option (Nat × Bool) := if (F m).isSome = true then none else (lb F (ups P m)).map fun b => (m, b)
theorem u_settle_0 (Φ : Ph) (n : Nat) (P : List NP) (F : Fd) (kvs : List (PyData × PyData)) (h : DcN kvs fun m => (F m).map rowD) (hl : ∀ us, Φ f_label_behind [nsD us, .dict kvs] = .ok (.str (lbS (lb F us)))) (A nw : List PyData) (hA : ∀ m, m < n → ixD (.list A) (.int m) = .ok (nsD (ups P m))) (m : Nat) (hm : m < n) (hnw : nw.length ≤ 1000) (s0 s1 s5 y7 : Sl) :
    ∃ y, b_settle_0 Φ [s0, s1, .dat (.list A) true, .dat (natD m) false, .dat (.dict kvs) true, s5, .dat (.list nw) true, y7] = .nx [s0, s1, .dat (.list A) true, .dat (natD m) false, .dat (.dict kvs) true, s5, .dat (.list (nw ++ ((newOf P F m).toList).map nwD)) true, y] := by
  have h1 := h.notIn m
  have h2 := hA m hm
  have h3 := hl (ups P m)
  have hn : nw.length < 16000000 := by omega
  unfold newOf
  cases hf : F m with
  | some y =>
    rw [hf] at h1
    refine ⟨y7, ?_⟩
    have h1 : notInD (.int m) (.dict kvs) = .ok (.bool false) := h1
    simp [b_settle_0, natD, h1]
  | none =>
    rw [hf] at h1
    have h1 : notInD (.int m) (.dict kvs) = .ok (.bool true) := h1
    cases hb : lb F (ups P m) with
    | none =>
      rw [hb] at h3
      refine ⟨.dat (.str "") false, ?_⟩
      have h3 : Φ f_label_behind [nsD (ups P m), .dict kvs] = .ok (.str "") := h3
      simp [b_settle_0, natD, h1, h2, h3]
    | some b =>
      rw [hb] at h3
      refine ⟨.dat (.str (labD b)) false, ?_⟩
      have h3 : Φ f_label_behind [nsD (ups P m), .dict kvs] = .ok (.str (labD b)) := h3
      have hne : ¬ labD b = "" := by cases b <;> decide +kernel
      generalize nsD (ups P m) = U at *
      simp [b_settle_0, natD, nwD, h1, h2, h3, hne, hn]
theorem u_settle_2 (Φ : Ph) (n r : Nat) (hn : n ≤ 16) (P : List NP) (F : Fd) (kvs : List (PyData × PyData)) (h : DcN kvs fun m => (F m).map rowD) (hk : kvs.length ≤ 1000) (hl : ∀ us, Φ f_label_behind [nsD us, .dict kvs] = .ok (.str (lbS (lb F us)))) (A : List PyData) (hA : ∀ m, m < n → ixD (.list A) (.int m) = .ok (nsD (ups P m))) (s1 y3 y6 y7 : Sl) (c3 : Cl y3) :
    ∃ kvs' y3' y6' y7', Cl y3' ∧ b_settle_2 Φ [.dat (.int n) false, s1, .dat (.list A) true, y3, .dat (.dict kvs) true, .dat (natD r) false, y6, y7] = .nx [.dat (.int n) false, s1, .dat (.list A) true, y3', .dat (.dict kvs') true, .dat (natD r) false, y6', y7'] ∧ (DcN kvs' fun m => (nxt n P F r m).map rowD) ∧ kvs'.length ≤ kvs.length + n := by
  unfold b_settle_2
  rw [seq_nx (ρ' := [.dat (.int n) false, s1, .dat (.list A) true, y3, .dat (.dict kvs) true, .dat (natD r) false, .dat (.list []) true, y7]) (by simp)]
  obtain ⟨ρ', g1, y3a, y7a, c3a, rfl⟩ := forL_inv natD (fun done ρ => ∃ y3 y7, Cl y3 ∧ ρ = [.dat (.int n) false, s1, .dat (.list A) true, y3, .dat (.dict kvs) true, .dat (natD r) false, .dat (.list ((done.filterMap (newOf P F)).map nwD)) true, y7]) (i := 3) (b := b_settle_0 Φ) (List.range n) (by
    rintro done m rest ρ e ⟨y3, y7, _, rfl⟩
    obtain ⟨hj, rfl⟩ := range_at e
    have hln : ((done.filterMap (newOf P F)).map nwD).length ≤ 1000 := by
      rw [List.length_map]
      have := List.length_filterMap_le (newOf P F) done
      omega
    obtain ⟨y, g⟩ := u_settle_0 Φ n P F kvs h hl A _ hA done.length hj hln (.dat (.int n) false) s1 (.dat (natD r) false) y7
    refine ⟨_, .inl g, .dat (natD done.length) false, y, cl_dat _, ?_⟩
    rw [List.filterMap_append, List.map_append, show [done.length].filterMap (newOf P F) = (newOf P F done.length).toList from by
      rw [List.filterMap_cons, List.filterMap_nil]
      cases newOf P F done.length <;> rfl]) (ρ := [.dat (.int n) false, s1, .dat (.list A) true, y3, .dat (.dict kvs) true, .dat (natD r) false, .dat (.list []) true, y7]) ⟨y3, y7, c3, rfl⟩
  have hr := cRange1_nat (n := n) (a := cVarB 0) (ρ := [.dat (.int n) false, s1, .dat (.list A) true, y3, .dat (.dict kvs) true, .dat (natD r) false, .dat (.list []) true, y7]) (by simp) (by omega)
  rw [seq_nx (for_nx0 hr g1)]
  have en : (List.range n).filterMap (newOf P F) = news n P F := rfl
  rw [en]
  have e2 : (news n P F).map nwD = (news n P F).map fun p => .tuple [natD p.1, .str (labD p.2)] := rfl
  have hnl := news_len n P F
  obtain ⟨ρ', g2, kvs', y3b, y7b, c3b, rfl, d1, d2⟩ := forL_inv2 (fun p : Nat × Bool => natD p.1) (fun p : Nat × Bool => PyData.str (labD p.2)) (fun done ρ => ∃ kvs' y3 y7, Cl y3 ∧ ρ = [.dat (.int n) false, s1, .dat (.list A) true, y3, .dat (.dict kvs') true, .dat (natD r) false, .dat (.list ((news n P F).map nwD)) false, y7] ∧ (DcN kvs' fun m => (updL r F done m).map rowD) ∧ kvs'.length ≤ kvs.length + done.length) (i := 3) (j := 7) (b := b_settle_1 Φ) (news n P F) (by
    rintro done p rest ρ e ⟨kvs', y3, y7, _, rfl, d1, d2⟩
    have hdl : done.length ≤ n := by
      have := congrArg List.length e
      rw [List.length_append] at this
      omega
    have hp := d1.put p.1 (rowD (p.2, r))
    have e1 : b_settle_1 Φ [.dat (.int n) false, s1, .dat (.list A) true, .dat (natD p.1) false, .dat (.dict kvs') true, .dat (natD r) false, .dat (.list ((news n P F).map nwD)) false, .dat (.str (labD p.2)) false] = .nx [.dat (.int n) false, s1, .dat (.list A) true, .dat (natD p.1) false, .dat (.dict (putG keyK kD (.inl (p.1 : Int)) (rowD (p.2, r)) kvs')) true, .dat (natD r) false, .dat (.list ((news n P F).map nwD)) false, .dat (.str (labD p.2)) false] := by
      have := d1.sput (i := 4) (cj := cVarB 3) (c := cTup [cVar 7, cVar 5]) (ρ := [.dat (.int n) false, s1, .dat (.list A) true, .dat (natD p.1) false, .dat (.dict kvs') true, .dat (natD r) false, .dat (.list ((news n P F).map nwD)) false, .dat (.str (labD p.2)) false]) (m := p.1) (v := rowD (p.2, r)) rfl (by simp [natD]) (by simp [natD, rowD]) (by omega)
      have t2 : disow [7, 5] (sPut 4 (cVarB 3) (cTup [cVar 7, cVar 5])) [.dat (.int n) false, s1, .dat (.list A) true, .dat (natD p.1) false, .dat (.dict kvs') true, .dat (natD r) false, .dat (.list ((news n P F).map nwD)) false, .dat (.str (labD p.2)) false] = .nx [.dat (.int n) false, s1, .dat (.list A) true, .dat (natD p.1) false, .dat (.dict (putG keyK kD (.inl (p.1 : Int)) (rowD (p.2, r)) kvs')) true, .dat (natD r) false, .dat (.list ((news n P F).map nwD)) false, .dat (.str (labD p.2)) false] := by
        rw [disow_ap]
        exact this
      unfold b_settle_1
      rw [seq_nx t2]
      rfl
    refine ⟨_, e1, _, _, _, cl_dat _, rfl, ?_, ?_⟩
    · refine hp.congr fun x => ?_
      have : updL r F (done ++ [p]) x = if x = p.1 then some (p.2, r) else updL r F done x := by
        unfold updL
        rw [List.foldl_append]; rfl
      rw [this]
      by_cases hx : x = p.1
      · rw [if_pos hx, if_pos hx]; rfl
      · rw [if_neg hx, if_neg hx]
    · have := putG_len (dec := keyK) (enc := kD) (.inl (p.1 : Int)) (rowD (p.2, r)) kvs'
      rw [List.length_append]
      simp
      omega) (ρ := [.dat (.int n) false, s1, .dat (.list A) true, y3a, .dat (.dict kvs) true, .dat (natD r) false, .dat (.list ((news n P F).map nwD)) false, y7a]) ⟨kvs, y3a, y7a, c3a, rfl, h, by simp⟩
  rw [← e2] at g2
  refine ⟨kvs', y3b, .dat (.list ((news n P F).map nwD)) false, y7b, c3b, ?_, d1.congr fun x => by rw [updL_news], by omega⟩
  have s3 : disow [6] (sFor (cItE (cVar 6)) (.tup [3, 7]) (b_settle_1 Φ)) [.dat (.int n) false, s1, .dat (.list A) true, y3a, .dat (.dict kvs) true, .dat (natD r) false, .dat (.list ((news n P F).map nwD)) true, y7a] = .nx [.dat (.int n) false, s1, .dat (.list A) true, y3b, .dat (.dict kvs') true, .dat (natD r) false, .dat (.list ((news n P F).map nwD)) false, y7b] := by
    rw [disow_ap]
    exact for_nx (by simp) g2
  rw [seq_nx s3]
  rfl
/-- what is found after r rounds -/
def FF (n : Nat) (P : List NP) : Nat → Fd
  | 0 => fun _ => none
  | r + 1 => nxt n P (FF n P r) (r + 1)
def St (n : Nat) (P : List NP) : Fd := FF n P n
def valD (n : Nat) (F : Fd) : PyData := .list ((List.range n).map fun m => rwD (F m))
theorem range_1 (n : Nat) : rangeL 1 ((n : Int) + 1) = (List.range n).map fun i => natD (i + 1) := by
  unfold rangeL natD
  have : ((n : Int) + 1 - 1).toNat = n := by omega
  rw [this]
  apply List.map_congr_left
  intro i _
  congr 1
  omega
theorem v_settle (k n : Nat) (hn : n ≤ 16) (P : List NP) : Ev (k + 2) f_settle [.int n, pvD P] = .ok (valD n (St n P)) := by
  refine (e_settle (k + 1) _).trans ?_
  have h1 := fun m => v_overriders k P m
  have h2 : ∀ (us : List Nat) (kvs : List (PyData × PyData)) (F : Fd), (DcN kvs fun m => (F m).map rowD) → Ev (k + 1) f_label_behind [nsD us, .dict kvs] = .ok (.str (lbS (lb F us))) := fun us kvs F h => (e_label_behind k _).trans (u_label _ us kvs F h)
  generalize Ev (k + 1) = Φ at h1 h2
  have hq := compL_on_all natD (fun m => nsD (ups P m)) (i := 3) (e := c_settle_0 Φ) (ρ := [.dat (.int n) false, .dat (pvD P) false, .no, .no, .no, .no, .no, .no]) (l := List.range n) (by
    intro m _
    have := h1 m
    generalize pvD P = PD at *
    simp [c_settle_0, natD, this])
  have hr := cRange1_nat (n := n) (a := cVarB 0) (ρ := [.dat (.int n) false, .dat (pvD P) false, .no, .no, .no, .no, .no, .no]) (by simp) (by omega)
  rw [run_of (ρ := [.dat (.int n) false, .dat (pvD P) false, .no, .no, .no, .no, .no, .no]) rfl rfl]
  unfold t_settle
  obtain ⟨A, hA⟩ : ∃ A, (List.range n).map (fun m => nsD (ups P m)) = A := ⟨_, rfl⟩
  rw [hA] at hq
  have hAt : ∀ m, m < n → ixD (.list A) (.int m) = .ok (nsD (ups P m)) := by
    intro m hm
    rw [← hA]
    exact ixL_nat (by simp [hm])
  have s1 : disow [] (sSet 2 true (cComp (cRange1 (cVarB 0)) [3] (.one 3) (tYesC) (c_settle_0 Φ))) [.dat (.int n) false, .dat (pvD P) false, .no, .no, .no, .no, .no, .no] = .nx [.dat (.int n) false, .dat (pvD P) false, .dat (.list A) true, .no, .no, .no, .no, .no] := by
    generalize hR : (List.range n).map natD = L at hr hq
    generalize pvD P = PD at *
    simp [-cRange1_ap, hr, hq]
  rw [seq_nx s1]
  rw [seq_nx (ρ' := [.dat (.int n) false, .dat (pvD P) false, .dat (.list A) true, .no, .dat (.dict []) true, .no, .no, .no]) (by
    generalize pvD P = PD at *
    simp)]
  obtain ⟨ρ', g1, kvs, y3, y5, y6, y7, c3, rfl, d1, d2⟩ := forL_inv (fun i => natD (i + 1)) (fun done ρ => ∃ kvs y3 y5 y6 y7, Cl y3 ∧ ρ = [.dat (.int n) false, .dat (pvD P) false, .dat (.list A) true, y3, .dat (.dict kvs) true, y5, y6, y7] ∧ (DcN kvs fun m => (FF n P done.length m).map rowD) ∧ kvs.length ≤ 16 * done.length) (i := 5) (b := b_settle_2 Φ) (List.range n) (by
    rintro done i rest ρ e ⟨kvs, y3, y5, y6, y7, c3, rfl, d1, d2⟩
    obtain ⟨hj, rfl⟩ := range_at e
    obtain ⟨kvs', y3', y6', y7', c3', g, d3, d4⟩ := u_settle_2 Φ n (done.length + 1) hn P _ kvs d1 (by omega) (fun us => h2 us kvs _ d1) A hAt (.dat (pvD P) false) y3 y6 y7 c3
    refine ⟨_, .inl g, kvs', y3', _, y6', y7', c3', rfl, ?_, ?_⟩
    · rw [List.length_append]
      exact d3
    · rw [List.length_append]
      simp
      omega) (ρ := [.dat (.int n) false, .dat (pvD P) false, .dat (.list A) true, .no, .dat (.dict []) true, .no, .no, .no]) ⟨[], .no, .no, .no, .no, cl_no, rfl, DcN.nil.congr fun _ => rfl, by simp⟩
  rw [List.length_range] at d1
  have hr2 : cRange2 (cK (.int 1)) (c2 addD (cVarB 0) (cK (.int 1))) [.dat (.int n) false, .dat (pvD P) false, .dat (.list A) true, .no, .dat (.dict []) true, .no, .no, .no] = .ok ((List.range n).map fun i => natD (i + 1)) := by
    rw [cRange2_nat (n := 1) (m := n + 1) (by simp) (by
      generalize pvD P = PD
      simp) (by decide) (by omega)]
    have := range_1 n
    rw [← this]
    rfl
  rw [seq_nx (for_nx0 hr2 g1)]
  have hq2 := compL_on_all natD (fun m => rwD (FF n P n m)) (i := 3) (e := c_settle_1 Φ) (ρ := [.dat (.int n) false, .dat (pvD P) false, .dat (.list A) true, .no, .dat (.dict kvs) true, y5, y6, y7]) (l := List.range n) (by
    intro m _
    unfold c_settle_1
    rw [d1.get2 (m := m) (z := .tuple [.str "unsettled", .int 0]) (by simp) (by simp [natD]) (by simp)]
    cases FF n P n m <;> rfl)
  have hr3 := cRange1_nat (n := n) (a := cVarB 0) (ρ := [.dat (.int n) false, .dat (pvD P) false, .dat (.list A) true, y3, .dat (.dict kvs) true, y5, y6, y7]) (by simp) (by omega)
  unfold valD St
  generalize hR : (List.range n).map natD = L at hr3 hq2
  generalize (List.range n).map (fun m => rwD (FF n P n m)) = V at *
  generalize pvD P = PD at *
  have hw : wipeE [.dat (.int n) false, .dat PD false, .dat (.list A) true, y3, .dat (.dict kvs) true, y5, y6, y7] [3] = [.dat (.int n) false, .dat PD false, .dat (.list A) true, .no, .dat (.dict kvs) true, y5, y6, y7] := rfl
  rcases c3 with rfl | ⟨d, rfl⟩ <;> simp [-cRange1_ap, hr3, hq2]
end Pv.K44


namespace Pv.K44
open PySem PySem.Spec L2
open PyProof.Rows hiding St

/-! ### what settle finds obeys the rules -/
theorem countP_strict {p q : Nat → Bool} : ∀ {l : List Nat}, (∀ x ∈ l, p x = true → q x = true) → (∃ x ∈ l, q x = true ∧ p x = false) → l.countP p < l.countP q
  | [], _, ⟨x, hx, _⟩ => by cases hx
  | a :: l, h, ⟨x, hx, h1, h2⟩ => by
    have hm : l.countP p ≤ l.countP q := List.countP_mono_left fun y hy => h y (List.mem_cons_of_mem _ hy)
    rw [List.countP_cons, List.countP_cons]
    rcases List.mem_cons.mp hx with rfl | hx
    · rw [h1, h2]; simp; omega
    · have ih := countP_strict (l := l) (fun y hy => h y (List.mem_cons_of_mem _ hy)) ⟨x, hx, h1, h2⟩
      have := h a List.mem_cons_self
      cases hp : p a with
      | false =>
        cases q a <;> simp <;> omega
      | true =>
        rw [this hp]; simp; omega
theorem stab {n : Nat} (S : Nat → Nat → Bool) (mono : ∀ r m, S r m = true → S (r + 1) m = true) (inn : ∀ r m, S r m = true → m < n) (st : ∀ r, (∀ m, S (r + 1) m = S r m) → ∀ m, S (r + 2) m = S (r + 1) m) : ∀ m, S (n + 1) m = S n m := by
  have up : ∀ r, (∀ m, S (r + 1) m = S r m) → ∀ d m, S (r + d + 1) m = S (r + d) m := by
    intro r h d
    induction d with
    | zero => exact h
    | succ d ih => exact st (r + d) ih
  have key : ∀ r, (∃ r', r' < r ∧ ∀ m, S (r' + 1) m = S r' m) ∨ r ≤ (List.range n).countP (S r) := by
    intro r
    induction r with
    | zero => exact .inr (Nat.zero_le _)
    | succ r ih =>
      rcases ih with ⟨r', h1, h2⟩ | ih
      · exact .inl ⟨r', by omega, h2⟩
      · by_cases hs : ∀ m, S (r + 1) m = S r m
        · exact .inl ⟨r, by omega, hs⟩
        · right
          obtain ⟨m, hm⟩ := Classical.not_forall.mp hs
          have h1 : S r m = false := by
            cases h : S r m with
            | false => rfl
            | true => exact absurd ((mono r m h).trans h.symm) hm
          have h2 : S (r + 1) m = true := by
            cases h : S (r + 1) m with
            | true => rfl
            | false => exact absurd (h.trans h1.symm) hm
          have := countP_strict (l := List.range n) (p := S r) (q := S (r + 1)) (fun x _ hx => mono r x hx) ⟨m, by simpa using inn _ _ h2, h2, h1⟩
          omega
  rcases key (n + 1) with ⟨r', h1, h2⟩ | h
  · have := up r' h2 (n - r')
    rwa [show r' + (n - r') = n by omega] at this
  · have := List.countP_le_length (p := S (n + 1)) (l := List.range n)
    rw [List.length_range] at this
    omega
theorem FF_mono {n : Nat} {P : List NP} {r m : Nat} {y : Bool × Nat} (h : FF n P r m = some y) : FF n P (r + 1) m = some y := by
  show (match FF n P r m with | some y => some y | none => _) = _
  rw [h]
theorem FF_up {n : Nat} {P : List NP} {r m : Nat} {y : Bool × Nat} (h : FF n P r m = some y) (d : Nat) : FF n P (r + d) m = some y := by
  induction d with
  | zero => exact h
  | succ d ih => exact FF_mono ih
theorem FF_le {n : Nat} {P : List NP} {r s m : Nat} {y : Bool × Nat} (h : FF n P r m = some y) (hs : r ≤ s) : FF n P s m = some y := by
  have := FF_up h (s - r)
  rwa [show r + (s - r) = s by omega] at this
/-- the round in which a row was found -/
theorem FF_born {n : Nat} {P : List NP} : ∀ {r m : Nat} {b : Bool} {k : Nat}, FF n P r m = some (b, k) → 1 ≤ k ∧ k ≤ r ∧ m < n ∧ FF n P (k - 1) m = none ∧ lb (FF n P (k - 1)) (ups P m) = some b
  | 0, m, b, k, h => by cases h
  | r + 1, m, b, k, h => by
    have h' : (match FF n P r m with | some y => some y | none => if m < n then (lb (FF n P r) (ups P m)).map fun b => (b, r + 1) else none) = some (b, k) := h
    cases hf : FF n P r m with
    | some y =>
      rw [hf] at h'
      injection h' with h'
      subst h'
      obtain ⟨h1, h2, h3⟩ := FF_born hf
      exact ⟨h1, by omega, h3⟩
    | none =>
      rw [hf] at h'
      have h' : (if m < n then (lb (FF n P r) (ups P m)).map fun b => (b, r + 1) else none) = some (b, k) := h'
      by_cases hm : m < n
      · rw [if_pos hm] at h'
        obtain ⟨b', e1, e2⟩ := Option.map_eq_some_iff.mp h'
        injection e2 with e2 e3
        subst e2; subst e3
        exact ⟨by omega, by omega, hm, hf, e1⟩
      · rw [if_neg hm] at h'
        cases h'
theorem FF_none {n : Nat} {P : List NP} {r m : Nat} (hm : m < n) (h : FF n P (r + 1) m = none) : FF n P r m = none ∧ lb (FF n P r) (ups P m) = none := by
  have h' : (match FF n P r m with | some y => some y | none => if m < n then (lb (FF n P r) (ups P m)).map fun b => (b, r + 1) else none) = none := h
  cases hf : FF n P r m with
  | some y => rw [hf] at h'; cases h'
  | none =>
    rw [hf] at h'
    have h' : (if m < n then (lb (FF n P r) (ups P m)).map fun b => (b, r + 1) else none) = none := h'
    rw [if_pos hm] at h'
    exact ⟨rfl, Option.map_eq_none_iff.mp h'⟩
theorem FF_fix (n : Nat) (P : List NP) : ∀ m, FF n P (n + 1) m = FF n P n m := by
  have key := stab (n := n) (fun r m => (FF n P r m).isSome) (by
    intro r m h
    obtain ⟨y, hy⟩ := Option.isSome_iff_exists.mp h
    show (FF n P (r + 1) m).isSome = true
    rw [FF_mono hy]; rfl) (by
    intro r m h
    obtain ⟨⟨b, k⟩, hy⟩ := Option.isSome_iff_exists.mp h
    exact (FF_born hy).2.2.1) (by
    intro r h m
    have eq : FF n P (r + 1) = FF n P r := by
      funext x
      have hx := h x
      cases hf : FF n P r x with
      | some y => exact FF_mono hf
      | none =>
        rw [hf] at hx
        simpa using hx
    show (nxt n P (FF n P (r + 1)) (r + 2) m).isSome = (FF n P (r + 1) m).isSome
    rw [eq]
    have e2 : FF n P r m = nxt n P (FF n P r) (r + 1) m := by
      have := congrFun eq m
      exact this.symm
    unfold nxt at e2 ⊢
    cases hf : FF n P r m with
    | some y => rfl
    | none =>
      rw [hf] at e2
      show (if m < n then (lb (FF n P r) (ups P m)).map fun b => (b, r + 2) else none).isSome = _
      have e2 : none = (if m < n then (lb (FF n P r) (ups P m)).map fun b => (b, r + 1) else none) := e2
      by_cases hm : m < n
      · rw [if_pos hm] at e2 ⊢
        have := Option.map_eq_none_iff.mp e2.symm
        rw [this]; rfl
      · rw [if_neg hm])
  intro m
  have hx := key m
  cases hf : FF n P n m with
  | some y => exact FF_mono hf
  | none =>
    have hx : (FF n P (n + 1) m).isSome = (FF n P n m).isSome := hx
    rw [hf] at hx
    simpa using hx
theorem lb_some_false {F : Fd} {us : List Nat} (h : lb F us = some false) : ∃ u ∈ us, ∃ k, F u = some (true, k) := by
  unfold lb at h
  split at h
  · rename_i ha
    obtain ⟨u, hu, hf⟩ := List.any_eq_true.mp ha
    refine ⟨u, hu, ?_⟩
    cases hF : F u with
    | none => rw [hF] at hf; cases hf
    | some y =>
      obtain ⟨b, k⟩ := y
      rw [hF] at hf
      have : b = true := hf
      subst this
      exact ⟨k, rfl⟩
  · split at h <;> cases h
theorem lb_some_true {F : Fd} {us : List Nat} (h : lb F us = some true) : ∀ u ∈ us, ∃ k, F u = some (false, k) := by
  unfold lb at h
  split at h
  · cases h
  · rename_i ha
    split at h
    · rename_i hb
      intro u hu
      have h1 := List.all_eq_true.mp hb u hu
      obtain ⟨⟨b, k⟩, hy⟩ := Option.isSome_iff_exists.mp h1
      cases b with
      | false => exact ⟨k, hy⟩
      | true =>
        exfalso
        apply ha
        exact List.any_eq_true.mpr ⟨u, hu, by rw [hy]; rfl⟩
    · cases h
theorem lb_none {F : Fd} {us : List Nat} (h : lb F us = none) : (∀ u ∈ us, ∀ k, F u ≠ some (true, k)) ∧ ∃ u ∈ us, F u = none := by
  unfold lb at h
  split at h
  · cases h
  · rename_i ha
    split at h
    · cases h
    · rename_i hb
      refine ⟨fun u hu k e => ha (List.any_eq_true.mpr ⟨u, hu, by rw [e]; rfl⟩), ?_⟩
      rw [Bool.not_eq_true, List.all_eq_false] at hb
      obtain ⟨u, hu, hf⟩ := hb
      exact ⟨u, hu, by simpa using hf⟩
/-- the rules -/
structure Rules (n : Nat) (P : List NP) (F : Fd) : Prop where
  pos : ∀ m b k, F m = some (b, k) → 1 ≤ k
  st : ∀ m, m < n → ∀ k, F m = some (true, k) → (∀ u ∈ ups P m, ∃ j, F u = some (false, j) ∧ j < k) ∧ (k = 1 ∨ ∃ u ∈ ups P m, F u = some (false, k - 1))
  fa : ∀ m, m < n → ∀ k, F m = some (false, k) → (∃ u ∈ ups P m, F u = some (true, k - 1)) ∧ ∀ u ∈ ups P m, ∀ j, F u = some (true, j) → k - 1 ≤ j
  un : ∀ m, m < n → F m = none → (∀ u ∈ ups P m, ∀ j, F u ≠ some (true, j)) ∧ ∃ u ∈ ups P m, F u = none
theorem St_rules (n : Nat) (P : List NP) : Rules n P (St n P) := by
  have at_ : ∀ {u b k j}, St n P u = some (b, k) → j < k → FF n P j u = none := by
    intro u b k j h hj
    obtain ⟨h1, h2, h3, h4, h5⟩ := FF_born h
    cases hf : FF n P j u with
    | none => rfl
    | some y =>
      have := FF_le hf (show j ≤ k - 1 by omega)
      rw [h4] at this
      cases this
  refine ⟨fun m b k h => (FF_born h).1, ?_, ?_, ?_⟩
  · intro m hm k h
    obtain ⟨h1, h2, h3, h4, h5⟩ := FF_born h
    have ha := lb_some_true h5
    constructor
    · intro u hu
      obtain ⟨j, hj⟩ := ha u hu
      have := FF_born hj
      exact ⟨j, FF_le hj (by omega), by omega⟩
    · by_cases hk : k = 1
      · exact .inl hk
      · right
        obtain ⟨r, rfl⟩ : ∃ r, k = r + 2 := ⟨k - 2, by omega⟩
        have hn : FF n P (r + 1) m = none := h4
        have hl := (lb_none (FF_none hm hn).2).2
        obtain ⟨u, hu, hf⟩ := hl
        obtain ⟨j, hj⟩ := ha u hu
        have hb := FF_born hj
        have hj' : j = r + 1 := by
          by_cases hlt : j ≤ r
          · have := FF_le (s := r) (r := j) (m := u) (y := (false, j)) (by
              have z := FF_born hj
              -- found in round j
              have : FF n P (j - 1 + 1) u = some (false, j) := by
                show (match FF n P (j - 1) u with | some y => some y | none => if u < n then (lb (FF n P (j - 1)) (ups P u)).map fun b => (b, j - 1 + 1) else none) = _
                rw [z.2.2.2.1]
                show (if u < n then (lb (FF n P (j - 1)) (ups P u)).map fun b => (b, j - 1 + 1) else none) = _
                rw [if_pos z.2.2.1, z.2.2.2.2, show j - 1 + 1 = j by omega]; rfl
              rwa [show j - 1 + 1 = j by omega] at this) hlt
            rw [hf] at this
            cases this
          · have := hb.2.1
            omega
        refine ⟨u, hu, ?_⟩
        rw [hj'] at hj
        exact FF_le hj (by omega)
  · intro m hm k h
    obtain ⟨h1, h2, h3, h4, h5⟩ := FF_born h
    obtain ⟨u, hu, j, hj⟩ := lb_some_false h5
    have hb := FF_born hj
    have least : ∀ v ∈ ups P m, ∀ i, St n P v = some (true, i) → k - 1 ≤ i := by
      intro v hv i hi
      by_cases hlt : k - 1 ≤ i
      · exact hlt
      · exfalso
        obtain ⟨r, rfl⟩ : ∃ r, k = r + 2 := ⟨k - 2, by omega⟩
        have hn : FF n P (r + 1) m = none := h4
        have hl := (lb_none (FF_none hm hn).2).1
        have z := FF_born hi
        have this : FF n P (i - 1 + 1) v = some (true, i) := by
          show (match FF n P (i - 1) v with | some y => some y | none => if v < n then (lb (FF n P (i - 1)) (ups P v)).map fun b => (b, i - 1 + 1) else none) = _
          rw [z.2.2.2.1]
          show (if v < n then (lb (FF n P (i - 1)) (ups P v)).map fun b => (b, i - 1 + 1) else none) = _
          rw [if_pos z.2.2.1, z.2.2.2.2, show i - 1 + 1 = i by omega]; rfl
        rw [show i - 1 + 1 = i by omega] at this
        exact hl v hv i (FF_le this (by omega))
    refine ⟨⟨u, hu, ?_⟩, least⟩
    have e : St n P u = some (true, j) := FF_le hj (by omega)
    have := least u hu j e
    have hjk : j = k - 1 := by omega
    rw [← hjk]
    exact e
  · intro m hm h
    have h' : FF n P (n + 1) m = none := (FF_fix n P m).trans h
    exact lb_none (FF_none hm h').2
end Pv.K44


namespace Pv.K44
open PySem PySem.Spec L2
open PyProof.Rows hiding St

/-! ### is_row, is_right, is_settled -/
abbrev RI := Str × Int
def rwI (y : RI) : PyData := .tuple [.str y.1, .int y.2]
def toI : Option (Bool × Nat) → RI
  | some y => (labD y.1, y.2)
  | none => ("unsettled", 0)
theorem rw_toI (o : Option (Bool × Nat)) : rwD o = rwI (toI o) := by cases o <;> rfl
def LbOk (x : Str) : Prop := x = "stands" ∨ x = "falls" ∨ x = "unsettled"
instance (x : Str) : Decidable (LbOk x) := inferInstanceAs (Decidable (_ ∨ _))
def rowB : PyData → Bool
  | .tuple [.str x, .int _] => decide (LbOk x)
  | _ => false
theorem u_is_row (Φ : Ph) (h : ∀ d, Φ f_is_integer [d] = .ok (.bool (intdB d))) (d : PyData) : runC (t_is_row Φ) N_is_row P_is_row [d] = .ok (.bool (rowB d)) := by
  cases d with
  | tuple ds =>
    match ds with
    | [] => simp [t_is_row, rowB]
    | [x] => simp [t_is_row, rowB]
    | [x, y] =>
      cases x with
      | str x =>
        have h1 := h y
        have hm : inD (.str x) (.tuple [.str "stands", .str "falls", .str "unsettled"]) = .ok (.bool (decide (LbOk x))) := by
          have e : ([.str "stands", .str "falls", .str "unsettled"] : List PyData) = (["stands", "falls", "unsettled"] : List Str).map .str := rfl
          rw [e, (inD_seq (by simp [PyData.depth]) rfl (noDics_strs _)).1, mem_strs]
          congr 2
          apply decide_eq_decide.mpr
          unfold LbOk
          simp
        by_cases hx : LbOk x
        · cases y <;> simp [t_is_row, rowB, hm, hx, h1, intdB]
        · cases y <;> simp [t_is_row, rowB, hm, hx, h1, intdB]
      | _ => simp [t_is_row, rowB]
    | x :: y :: z :: ds =>
      have hn : ¬ ((((x :: y :: z :: ds).length : Nat) : Int) = 2) := by simp; omega
      have e : rowB (.tuple (x :: y :: z :: ds)) = false := by cases x <;> (try rfl) <;> cases y <;> rfl
      rw [e]
      generalize x :: y :: z :: ds = L at *
      simp [t_is_row, hn]
  | _ => simp [t_is_row, rowB]
theorem v_is_row (k : Nat) (d : PyData) : Ev (k + 2) f_is_row [d] = .ok (.bool (rowB d)) := (e_is_row (k + 1) _).trans (u_is_row _ (fun d => v_is_integer k d) d)
theorem row_ok {y : RI} (h : LbOk y.1) : rowB (rwI y) = true := decide_eq_true h
def rightB (y : RI) (rows : List RI) : Bool :=
  if y.1 = "unsettled" then decide (y.2 = 0) && (!decide (("stands" : Str) ∈ rows.map (·.1)) && decide (("unsettled" : Str) ∈ rows.map (·.1)))
  else if y.2 < 1 then false
  else if y.1 = "falls" then decide (("stands" : Str) ∈ (rows.filter fun z => decide (z.2 < y.2)).map (·.1))
  else decide (((rows.filter fun z => decide (z.2 < y.2)).map (·.1)).count ("falls" : Str) = rows.length)
theorem count_strs (l : List Str) (x : Str) : countD (.list (l.map .str)) (.str x) = .ok (.int (l.count x : Nat)) := by
  show (if ((PyData.str x).depth ≤ 60 ∧ noDic (.str x) = true) ∧ noDics (l.map .str) = true then R.ok (PyData.int ((l.map PyData.str).countP (fun z => PyData.eqv z (.str x)) : Nat)) else .bad) = _
  rw [if_pos ⟨⟨by simp [PyData.depth], rfl⟩, noDics_strs l⟩, List.countP_map]
  congr 3
theorem rI_0 (y : RI) : ixD (rwI y) (.int 0) = .ok (.str y.1) := ixT_0 ..
theorem rI_1 (y : RI) : ixD (rwI y) (.int 1) = .ok (.int y.2) := ixT_1 ..
theorem u_is_right (Φ : Ph) (y : RI) (rows : List RI) : runC (t_is_right Φ) N_is_right P_is_right [rwI y, .list (rows.map rwI)] = .ok (.bool (rightB y rows)) := by
  have hq1 := compL_on_all rwI (fun z : RI => PyData.str z.1) (i := 5) (e := c_is_right_0 Φ) (ρ := [.dat (rwI y) false, .dat (.list (rows.map rwI)) false, .dat (.str y.1) false, .dat (.int y.2) false, .no, .no, .no]) (l := rows) (by
    intro z _
    have := rI_0 z
    simp [c_is_right_0, this])
  have hq2 := compL_on rwI (fun z : RI => decide (z.2 < y.2)) (fun z : RI => PyData.str z.1) (i := 5) (t := q_is_right_0 Φ) (e := c_is_right_1 Φ) (ρ := [.dat (rwI y) false, .dat (.list (rows.map rwI)) false, .dat (.str y.1) false, .dat (.int y.2) false, .no, .no, .no]) (l := rows) (by
    intro z _
    have h0 := rI_0 z
    have h1 := rI_1 z
    exact ⟨by simp [q_is_right_0, h1], fun _ => by simp [c_is_right_1, h0]⟩)
  have e1 : rows.map (fun z : RI => PyData.str z.1) = (rows.map (·.1)).map .str := by rw [List.map_map]; rfl
  have e2 : (rows.filter fun z : RI => decide (z.2 < y.2)).map (fun z : RI => PyData.str z.1) = ((rows.filter fun z : RI => decide (z.2 < y.2)).map (·.1)).map .str := by rw [List.map_map]; rfl
  rw [e1] at hq1
  rw [e2] at hq2
  have m1 := notIn_strs "stands" (rows.map (·.1))
  have m2 := in_strs "unsettled" (rows.map (·.1))
  have m3 := in_strs "stands" ((rows.filter fun z : RI => decide (z.2 < y.2)).map (·.1))
  have m4 := count_strs ((rows.filter fun z : RI => decide (z.2 < y.2)).map (·.1)) "falls"
  have hl : lenD (.list (rows.map rwI)) = .ok (.int rows.length) := by show R.ok (PyData.int ((rows.map rwI).length : Nat)) = _; rw [List.length_map]
  unfold rightB
  obtain ⟨x, r⟩ := y
  generalize ((rows.filter fun z : RI => decide (z.2 < r)).map (·.1)) = S at *
  generalize rows.map (·.1) = T at *
  generalize rows.map rwI = RR at *
  generalize hS : S.map PyData.str = SS at *
  generalize hT : T.map PyData.str = TT at *
  have tg : disow [0] (sTg (.tup [2, 3]) (cVar 0)) [.dat (rwI (x, r)) false, .dat (.list RR) false, .no, .no, .no, .no, .no] = .nx [.dat (rwI (x, r)) false, .dat (.list RR) false, .dat (.str x) false, .dat (.int r) false, .no, .no, .no] := by
    unfold rwI
    simp
  rw [run_of (ρ := [.dat (rwI (x, r)) false, .dat (.list RR) false, .no, .no, .no, .no, .no]) rfl rfl]
  unfold t_is_right
  rw [seq_nx tg]
  generalize rwI (x, r) = Y at *
  simp only at hq1 hq2
  by_cases h1 : x = "unsettled"
  · subst h1
    by_cases h2 : r = 0
    · subst h2
      cases hs : decide (("stands" : Str) ∈ T) <;> simp [hq1, m1, m2, hs]
    · simp [hq1, h2]
  · by_cases h2 : r < 1
    · simp [h1, h2]
    · by_cases h3 : x = "falls"
      · subst h3
        simp [h1, h2, hq2, m3]
      · have e : decide (((S.count ("falls" : Str) : Nat) : Int) = rows.length) = decide (S.count ("falls" : Str) = rows.length) := decide_eq_decide.mpr (by constructor <;> intro z <;> omega)
        simp [h1, h2, h3, hq2, m4, hl, -lenD_list, e]
theorem v_is_right (k : Nat) (y : RI) (rows : List RI) : Ev (k + 1) f_is_right [rwI y, .list (rows.map rwI)] = .ok (.bool (rightB y rows)) := (e_is_right k _).trans (u_is_right _ y rows)
end Pv.K44


namespace Pv.K44
open PySem PySem.Spec L2
open PyProof.Rows hiding St

/-! ### is_settled -/
abbrev RowF := Nat → RI
def rowsL (n : Nat) (G : RowF) : List PyData := (List.range n).map fun m => rwI (G m)
def valI (n : Nat) (G : RowF) : PyData := .list (rowsL n G)
def setB (n : Nat) (P : List NP) (G : RowF) : Bool := (List.range n).all fun m => rightB (G m) ((ups P m).map G)
theorem ups_lt {n : Nat} {P : List NP} (h : ∀ p ∈ P, OvP n p) {m u : Nat} (hu : u ∈ ups P m) : u < n ∧ u ≠ m := by
  obtain ⟨p, hp, rfl⟩ := List.mem_map.mp hu
  obtain ⟨h1, h2⟩ := List.mem_filter.mp hp
  have h3 : p.2 = m := by simpa using h2
  have := h p h1
  exact ⟨this.1, fun e => this.2.2 (e.trans h3.symm)⟩
theorem ups_len (P : List NP) (m : Nat) : (ups P m).length ≤ P.length := by
  unfold ups
  rw [List.length_map]
  exact List.length_filter_le _ _
theorem val_at {n : Nat} {G : RowF} {m : Nat} (h : m < n) : ixD (valI n G) (.int m) = .ok (rwI (G m)) := ixL_nat (by simp [rowsL, h])
theorem rowsL_len (n : Nat) (G : RowF) : (rowsL n G).length = n := by simp [rowsL]
theorem u_settled_row (Φ : Ph) (h : ∀ d, Φ f_is_row [d] = .ok (.bool (rowB d))) (d : PyData) (s0 s1 s2 s4 s5 : Sl) : b_is_settled_0 Φ [s0, s1, s2, .dat d false, s4, s5] = if rowB d = true then .nx [s0, s1, s2, .dat d false, s4, s5] else .rt (.bool false) := by
  have := h d
  cases hb : rowB d <;> simp [b_is_settled_0, this, hb]
theorem u_settled_num (Φ : Ph) (n : Nat) (P : List NP) (hP : ∀ p ∈ P, OvP n p) (G : RowF) (h1 : ∀ m : Nat, Φ f_overriders [pvD P, .int m] = .ok (nsD (ups P m))) (h2 : ∀ (y : RI) (rows : List RI), Φ f_is_right [rwI y, .list (rows.map rwI)] = .ok (.bool (rightB y rows))) (m : Nat) (hm : m < n) (s0 s3 : Sl) :
    b_is_settled_1 Φ [s0, .dat (pvD P) false, .dat (valI n G) false, s3, .dat (natD m) false, .no] = if rightB (G m) ((ups P m).map G) = true then .nx [s0, .dat (pvD P) false, .dat (valI n G) false, s3, .dat (natD m) false, .no] else .rt (.bool false) := by
  have hq := compL_on_all natD (fun u => rwI (G u)) (i := 5) (e := c_is_settled_0 Φ) (ρ := [s0, .dat (pvD P) false, .dat (valI n G) false, s3, .dat (natD m) false, .no]) (l := ups P m) (by
    intro u hu
    have := val_at (G := G) (ups_lt hP hu).1
    generalize valI n G = V at *
    generalize pvD P = PD at *
    simp [c_is_settled_0, natD, this])
  have e : (ups P m).map (fun u => rwI (G u)) = ((ups P m).map G).map rwI := by rw [List.map_map]; rfl
  rw [e] at hq
  have h3 := h2 (G m) ((ups P m).map G)
  have h4 := val_at (G := G) hm
  have h5 := h1 m
  have ei : itD (nsD (ups P m)) = .ok ((ups P m).map natD) := rfl
  generalize valI n G = V at *
  generalize pvD P = PD at *
  generalize nsD (ups P m) = U at *
  generalize (ups P m).map natD = UL at *
  generalize ((ups P m).map G).map rwI = RR at *
  generalize rwI (G m) = Y at *
  unfold natD at *
  cases hb : rightB (G m) ((ups P m).map G) <;> simp [b_is_settled_1, h4, h5, ei, hq, h3, hb]
theorem v_settled_no (k n : Nat) (P : List NP) {d : PyData} (h : ∀ ds, d ≠ .list ds) : Ev (k + 1) f_is_settled [.int n, pvD P, d] = .ok (.bool false) := by
  refine (e_is_settled k _).trans ?_
  generalize Ev k = Φ
  generalize pvD P = PD
  cases d <;> first | exact absurd rfl (h _) | simp [t_is_settled]
theorem v_settled_len (k n : Nat) (P : List NP) (V : List PyData) (h : V.length ≠ n) : Ev (k + 1) f_is_settled [.int n, pvD P, .list V] = .ok (.bool false) := by
  refine (e_is_settled k _).trans ?_
  generalize Ev k = Φ
  generalize pvD P = PD
  have : ¬ ((V.length : Int) = n) := by omega
  simp [t_is_settled, this]
theorem v_settled_bad (k n : Nat) (P : List NP) (V : List PyData) (h : ∃ d ∈ V, rowB d = false) : Ev (k + 3) f_is_settled [.int n, pvD P, .list V] = .ok (.bool false) := by
  refine (e_is_settled (k + 2) _).trans ?_
  have h1 := fun d => v_is_row k d
  generalize Ev (k + 2) = Φ at *
  generalize pvD P = PD
  have g := forL_or (fun d : PyData => d) (fun done ρ => (∃ y, ρ = [.dat (.int n) false, .dat PD false, .dat (.list V) false, y, .no, .no]) ∧ ∀ d ∈ done, rowB d = true) (fun r => r = .rt (.bool false)) (i := 3) (b := b_is_settled_0 Φ) V (by
    rintro done d rest ρ e ⟨⟨y, rfl⟩, hd⟩
    have hb := u_settled_row Φ h1 d (.dat (.int n) false) (.dat PD false) (.dat (.list V) false) .no .no
    cases hx : rowB d with
    | true =>
      left
      rw [hx, if_pos rfl] at hb
      refine ⟨_, .inl hb, ⟨_, rfl⟩, ?_⟩
      intro z hz
      rcases List.mem_append.mp hz with hz | hz
      · exact hd z hz
      · rw [List.mem_singleton.mp hz]; exact hx
    | false =>
      right
      rw [hx, if_neg (by simp)] at hb
      rw [show b_is_settled_0 Φ ([.dat (.int n) false, .dat PD false, .dat (.list V) false, y, .no, .no].set 3 (.dat d false)) = _ from hb]
      exact ⟨.inl ⟨_, rfl⟩, rfl⟩) (ρ := [.dat (.int n) false, .dat PD false, .dat (.list V) false, .no, .no, .no]) ⟨⟨_, rfl⟩, by simp⟩
  rw [List.map_id'] at g
  rcases g with ⟨ρ', _, _, g⟩ | ⟨_, g⟩
  · obtain ⟨d, hd, hx⟩ := h
    rw [g d hd] at hx
    cases hx
  · by_cases hl : (V.length : Int) = n
    · simp [t_is_settled, hl, g]
    · simp [t_is_settled, hl]
theorem v_settled (k n : Nat) (hn : n ≤ 1000) (P : List NP) (hP : ∀ p ∈ P, OvP n p) (G : RowF) (h : ∀ m, m < n → LbOk (G m).1) : Ev (k + 3) f_is_settled [.int n, pvD P, valI n G] = .ok (.bool (setB n P G)) := by
  refine (e_is_settled (k + 2) _).trans ?_
  have h1 := fun d => v_is_row k d
  have h2 := fun m => v_overriders (k + 1) P m
  have h3 := fun y rows => v_is_right (k + 1) y rows
  generalize Ev (k + 2) = Φ at *
  have hlen := rowsL_len n G
  have hrow : ∀ d ∈ rowsL n G, rowB d = true := by
    intro d hd
    obtain ⟨m, hm, rfl⟩ := List.mem_map.mp hd
    exact row_ok (h m (by simpa using hm))
  obtain ⟨y3, g1⟩ := forL_same (fun d : PyData => d) (fun y => [.dat (.int n) false, .dat (pvD P) false, .dat (valI n G) false, y, .no, .no]) (i := 3) (b := b_is_settled_0 Φ) (rowsL n G) (fun x y => rfl) (by
    intro d hd
    have hb := u_settled_row Φ h1 d (.dat (.int n) false) (.dat (pvD P) false) (.dat (valI n G) false) .no .no
    rw [hrow d hd, if_pos rfl] at hb
    exact hb) .no
  rw [List.map_id'] at g1
  have g2 := forL_or natD (fun done ρ => (∃ y, ρ = [.dat (.int n) false, .dat (pvD P) false, .dat (valI n G) false, y3, y, .no]) ∧ ∀ m ∈ done, rightB (G m) ((ups P m).map G) = true) (fun r => r = .rt (.bool false) ∧ setB n P G = false) (i := 4) (b := b_is_settled_1 Φ) (List.range n) (by
    rintro done m rest ρ e ⟨⟨y, rfl⟩, hd⟩
    obtain ⟨hm, he⟩ := range_at e
    have hm' : m < n := by omega
    have hb := u_settled_num Φ n P hP G h2 h3 m hm' (.dat (.int n) false) y3
    cases hx : rightB (G m) ((ups P m).map G) with
    | true =>
      left
      rw [hx, if_pos rfl] at hb
      refine ⟨_, .inl hb, ⟨_, rfl⟩, ?_⟩
      intro z hz
      rcases List.mem_append.mp hz with hz | hz
      · exact hd z hz
      · rw [List.mem_singleton.mp hz]; exact hx
    | false =>
      right
      rw [hx, if_neg (by simp)] at hb
      rw [show b_is_settled_1 Φ ([.dat (.int n) false, .dat (pvD P) false, .dat (valI n G) false, y3, y, .no].set 4 (.dat (natD m) false)) = _ from hb]
      refine ⟨.inl ⟨_, rfl⟩, rfl, ?_⟩
      unfold setB
      rw [List.all_eq_false]
      exact ⟨m, by simpa using hm', by rw [hx]; simp⟩) (ρ := [.dat (.int n) false, .dat (pvD P) false, .dat (valI n G) false, y3, .no, .no]) ⟨⟨_, rfl⟩, by simp⟩
  have hr := cRange1_nat (n := n) (a := cVarB 0) (ρ := [.dat (.int n) false, .dat (pvD P) false, .dat (valI n G) false, y3, .no, .no]) (by simp) (by omega)
  have hll : lenD (valI n G) = .ok (.int n) := by show R.ok (PyData.int ((rowsL n G).length : Nat)) = _; rw [hlen]
  have hli : itD (valI n G) = .ok (rowsL n G) := rfl
  have ht : isiD ["list"] (valI n G) = .ok (.bool true) := rfl
  have hty : tyD (valI n G) = "list" := rfl
  rw [run_of (ρ := [.dat (.int n) false, .dat (pvD P) false, .dat (valI n G) false, .no, .no, .no]) rfl rfl]
  unfold t_is_settled
  rw [seq_nx (ρ' := [.dat (.int n) false, .dat (pvD P) false, .dat (valI n G) false, .no, .no, .no]) (by
    generalize valI n G = V at *
    generalize pvD P = PD at *
    simp [hty, hll])]
  have s2 : disow [2] (sFor (cItE (cVar 2)) (.one 3) (b_is_settled_0 Φ)) [.dat (.int n) false, .dat (pvD P) false, .dat (valI n G) false, .no, .no, .no] = .nx [.dat (.int n) false, .dat (pvD P) false, .dat (valI n G) false, y3, .no, .no] := by
    rw [disow_ap]
    exact for_nx (by
      show cItE (cVar 2) [.dat (.int n) false, .dat (pvD P) false, .dat (valI n G) false, .no, .no, .no] = _
      simp [hli]) g1
  rw [seq_nx s2]
  rcases g2 with ⟨ρ', g2, ⟨y4, rfl⟩, g3⟩ | ⟨_, g2, g3⟩
  · have : setB n P G = true := by
      unfold setB
      rw [List.all_eq_true]
      exact g3
    rw [this]
    rw [seq_nx (for_nx0 hr g2)]
    generalize valI n G = V at *
    generalize pvD P = PD at *
    simp
  · rw [g3]
    have s3 : disow [] (sFor (cRange1 (cVarB 0)) (.one 4) (b_is_settled_1 Φ)) [.dat (.int n) false, .dat (pvD P) false, .dat (valI n G) false, y3, .no, .no] = .rt (.bool false) := by
      rw [disow_ap]
      exact (for_of hr).trans g2
    rw [seq_rt s3]
    rfl
end Pv.K44


namespace Pv.K44
open PySem PySem.Spec L2
open PyProof.Rows hiding St

/-! ### the law's rules -/
theorem intsOf_ints : ∀ l : List Int, intsOf (l.map .int) = some l
  | [] => rfl
  | x :: l => by
    show (intsOf (l.map .int)).map (x :: ·) = _
    rw [intsOf_ints l]; rfl
theorem fold_max (M : Int) : ∀ (l : List Int) (a : Int), a ≤ M → (∀ x ∈ l, x ≤ M) → (a = M ∨ M ∈ l) → l.foldl max a = M
  | [], a, _, _, h => by
    rcases h with h | h
    · exact h
    · cases h
  | x :: l, a, h1, h2, h3 => by
    have hx := h2 x List.mem_cons_self
    refine fold_max M l (max a x) (by omega) (fun y hy => h2 y (List.mem_cons_of_mem _ hy)) ?_
    rcases h3 with h3 | h3
    · left; omega
    · rcases List.mem_cons.mp h3 with h3 | h3
      · left; omega
      · exact .inr h3
theorem fold_min (M : Int) : ∀ (l : List Int) (a : Int), M ≤ a → (∀ x ∈ l, M ≤ x) → (a = M ∨ M ∈ l) → l.foldl min a = M
  | [], a, _, _, h => by
    rcases h with h | h
    · exact h
    · cases h
  | x :: l, a, h1, h2, h3 => by
    have hx := h2 x List.mem_cons_self
    refine fold_min M l (min a x) (by omega) (fun y hy => h2 y (List.mem_cons_of_mem _ hy)) ?_
    rcases h3 with h3 | h3
    · left; omega
    · rcases List.mem_cons.mp h3 with h3 | h3
      · left; omega
      · exact .inr h3
theorem maxLD_0 {l : List Int} {M : Int} (h0 : 0 ≤ M) (h1 : ∀ x ∈ l, x ≤ M) (h2 : M = 0 ∨ M ∈ l) : maxLD (.list (.int 0 :: l.map .int)) = .ok (.int M) := by
  have e : intsOf (.int 0 :: l.map .int) = some (0 :: l) := intsOf_ints (0 :: l)
  show (match (intsOf (.int 0 :: l.map .int)).bind maxOf with | some m => R.ok (PyData.int m) | none => .bad) = _
  rw [e]
  show R.ok (PyData.int (l.foldl max 0)) = _
  rw [fold_max M l 0 h0 h1 (h2.imp Eq.symm id)]
theorem minLD_is {l : List Int} {M : Int} (h1 : ∀ x ∈ l, M ≤ x) (h2 : M ∈ l) : minLD (.list (l.map .int)) = .ok (.int M) := by
  show (match (intsOf (l.map .int)).bind minOf with | some m => R.ok (PyData.int m) | none => .bad) = _
  rw [intsOf_ints]
  cases l with
  | nil => cases h2
  | cons x l =>
    show R.ok (PyData.int (l.foldl min x)) = _
    rw [fold_min M l x (h1 x List.mem_cons_self) (fun y hy => h1 y (List.mem_cons_of_mem _ hy)) ?_]
    rcases List.mem_cons.mp h2 with h | h
    · exact .inl h.symm
    · exact .inr h
theorem v__law_above (k n : Nat) (P : List NP) (hP : ∀ p ∈ P, OvP n p) (G : RowF) (m : Nat) : Ev (k + 1) f__law_above [pvD P, valI n G, .int m] = .ok (.list (((ups P m).map G).map rwI)) := by
  refine (e__law_above k _).trans ?_
  generalize Ev k = Φ
  have hq := compL_on prN (fun p => decide (p.2 = m)) (fun p => rwI (G p.1)) (i := 3) (t := q__law_above_0 Φ) (e := c__law_above_0 Φ) (ρ := [.dat (pvD P) false, .dat (valI n G) false, .dat (.int m) false, .no]) (l := P) (by
    intro p hp
    have h1 : ixD (prN p) (.int 1) = .ok (.int p.2) := ixT_1 ..
    have h0 : ixD (prN p) (.int 0) = .ok (.int p.1) := ixT_0 ..
    have h2 := val_at (G := G) (hP p hp).1
    generalize valI n G = V at *
    generalize pvD P = PD at *
    refine ⟨?_, fun _ => by simp [c__law_above_0, h0, h2]⟩
    simp [q__law_above_0, h1]
    omega)
  have e : (P.filter fun p => decide (p.2 = m)).map (fun p => rwI (G p.1)) = ((ups P m).map G).map rwI := by
    unfold ups
    rw [List.map_map, List.map_map]; rfl
  rw [e] at hq
  have ei : itD (pvD P) = .ok (P.map prN) := rfl
  generalize valI n G = V at *
  generalize pvD P = PD at *
  generalize ((ups P m).map G).map rwI = RR at *
  generalize P.map prN = PL at *
  simp [t__law_above, ei, hq]
def stR (rows : List RI) : List Int := (rows.filter fun z : RI => decide (z.1 = "stands")).map (·.2)
theorem rule_lists (Φ : Ph) (y : RI) (rows : List RI) : compL (.one 3) tYesC (c__law_rule_0 Φ) [.dat (rwI y) false, .dat (.list (rows.map rwI)) false, .no, .no, .no] (rows.map rwI) = .ok ((rows.map (·.1)).map .str) ∧ ∀ s2, compL (.one 3) (q__law_rule_0 Φ) (c__law_rule_1 Φ) [.dat (rwI y) false, .dat (.list (rows.map rwI)) false, s2, .no, .no] (rows.map rwI) = .ok ((stR rows).map .int) := by
  have hq1 := compL_on_all rwI (fun z : RI => PyData.str z.1) (i := 3) (e := c__law_rule_0 Φ) (ρ := [.dat (rwI y) false, .dat (.list (rows.map rwI)) false, .no, .no, .no]) (l := rows) (by
    intro z _
    have := rI_0 z
    simp [c__law_rule_0, this])
  have e1 : rows.map (fun z : RI => PyData.str z.1) = (rows.map (·.1)).map .str := by rw [List.map_map]; rfl
  rw [e1] at hq1
  refine ⟨hq1, fun s2 => ?_⟩
  have hq2 := compL_on rwI (fun z : RI => decide (z.1 = "stands")) (fun z : RI => PyData.int z.2) (i := 3) (t := q__law_rule_0 Φ) (e := c__law_rule_1 Φ) (ρ := [.dat (rwI y) false, .dat (.list (rows.map rwI)) false, s2, .no, .no]) (l := rows) (by
    intro z _
    have h0 := rI_0 z
    have h1 := rI_1 z
    exact ⟨by simp [q__law_rule_0, h0], fun _ => by simp [c__law_rule_1, h1]⟩)
  have e2 : (rows.filter fun z : RI => decide (z.1 = "stands")).map (fun z : RI => PyData.int z.2) = (stR rows).map .int := by unfold stR; rw [List.map_map]; rfl
  rw [e2] at hq2
  exact hq2
theorem u_rule (Φ : Ph) (y : RI) (rows : List RI) (hl : rows.length ≤ 1000) (h : (y.1 = "stands" ∧ (∀ z ∈ rows, z.1 = "falls" ∧ z.2 ≤ y.2 - 1) ∧ 1 ≤ y.2 ∧ (y.2 - 1 = 0 ∨ ∃ z ∈ rows, z.2 = y.2 - 1)) ∨ (y.1 = "falls" ∧ (∃ z ∈ rows, z.1 = "stands" ∧ z.2 = y.2 - 1) ∧ ∀ z ∈ rows, z.1 = "stands" → y.2 - 1 ≤ z.2) ∨ (y = ((("unsettled" : Str), (0 : Int)) : RI) ∧ (∀ z ∈ rows, z.1 ≠ "stands") ∧ ∃ z ∈ rows, z.1 = "unsettled")) :
    runC (t__law_rule Φ) N__law_rule P__law_rule [rwI y, .list (rows.map rwI)] = .ok (.bool true) := by
  obtain ⟨q1, q2⟩ := rule_lists Φ y rows
  have q2 := q2 (.dat (.list ((rows.map (·.1)).map .str)) true)
  have z0 : sizeLine = 16777216 := rfl
  have y0 := rI_0 y
  have y1 := rI_1 y
  obtain ⟨x, r⟩ := y
  rw [run_of (ρ := [.dat (rwI (x, r)) false, .dat (.list (rows.map rwI)) false, .no, .no, .no]) rfl rfl]
  unfold t__law_rule
  rw [seq_nx (ρ' := [.dat (rwI (x, r)) false, .dat (.list (rows.map rwI)) false, .dat (.list ((rows.map (·.1)).map .str)) true, .no, .no]) (by
    generalize rwI (x, r) = Y at *
    generalize (rows.map (·.1)).map PyData.str = LS at *
    generalize rows.map rwI = RR at *
    simp [q1])]
  rw [seq_nx (ρ' := [.dat (rwI (x, r)) false, .dat (.list (rows.map rwI)) false, .dat (.list ((rows.map (·.1)).map .str)) true, .no, .dat (.list ((stR rows).map .int)) true]) (by
    generalize rwI (x, r) = Y at *
    generalize (rows.map (·.1)).map PyData.str = LS at *
    generalize (stR rows).map PyData.int = SS at *
    generalize rows.map rwI = RR at *
    simp [q2])]
  rcases h with ⟨hx, h1, h2, h3⟩ | ⟨hx, h1, h2⟩ | ⟨hx, h1, h2⟩
  · have hx : x = "stands" := hx
    subst hx
    have h2 : 1 ≤ r := h2
    have hq3 := compL_on_all rwI (fun z : RI => PyData.int z.2) (i := 3) (e := c__law_rule_2 Φ) (ρ := [.dat (rwI ("stands", r)) false, .dat (.list (rows.map rwI)) false, .dat (.list ((rows.map (·.1)).map .str)) true, .no, .dat (.list ((stR rows).map .int)) true]) (l := rows) (by
      intro z _
      have := rI_1 z
      simp [c__law_rule_2, this])
    have e3 : rows.map (fun z : RI => PyData.int z.2) = (rows.map (·.2)).map .int := by rw [List.map_map]; rfl
    rw [e3] at hq3
    have mx : maxLD (.list (.int 0 :: (rows.map (·.2)).map .int)) = .ok (.int (r - 1)) := maxLD_0 (by omega) (by
      intro v hv
      obtain ⟨z, hz, rfl⟩ := List.mem_map.mp hv
      exact (h1 z hz).2) (by
      rcases h3 with h3 | ⟨z, hz, e⟩
      · exact .inl h3
      · exact .inr (List.mem_map.mpr ⟨z, hz, e⟩))
    have cnt : (rows.map (·.1)).count ("falls" : Str) = rows.length := by
      have := List.count_eq_length (a := ("falls" : Str)) (l := rows.map (·.1))
      rw [List.length_map] at this
      rw [this]
      intro b hb
      obtain ⟨z, hz, rfl⟩ := List.mem_map.mp hb
      exact (h1 z hz).1.symm
    have ct := count_strs (rows.map (·.1)) "falls"
    rw [cnt] at ct
    have ll : lenD (.list ((rows.map (·.1)).map .str)) = .ok (.int rows.length) := by show R.ok (PyData.int (((rows.map (·.1)).map PyData.str).length : Nat)) = _; rw [List.length_map, List.length_map]
    have ad : addD (.list [.int 0]) (.list ((rows.map (·.2)).map .int)) = .ok (.list (.int 0 :: (rows.map (·.2)).map .int)) := addL _ _ (by simp; omega)
    generalize rwI ("stands", r) = Y at *
    generalize (rows.map (·.1)).map PyData.str = LS at *
    generalize (stR rows).map PyData.int = SS at *
    generalize (rows.map (·.2)).map PyData.int = RK at *
    generalize rows.map rwI = RR at *
    have e : 1 + (r - 1) = r := by omega
    simp [y0, y1, ct, ll, -lenD_list, hq3, ad, mx, e]
  · have hx : x = "falls" := hx
    subst hx
    have mem : ∀ v, v ∈ stR rows ↔ ∃ z ∈ rows, z.1 = "stands" ∧ z.2 = v := by
      intro v
      unfold stR
      rw [List.mem_map]
      constructor
      · rintro ⟨z, hz, e⟩
        obtain ⟨a, b⟩ := List.mem_filter.mp hz
        exact ⟨z, a, of_decide_eq_true b, e⟩
      · rintro ⟨z, hz, b, e⟩
        exact ⟨z, List.mem_filter.mpr ⟨hz, decide_eq_true b⟩, e⟩
    have mn : minLD (.list ((stR rows).map .int)) = .ok (.int (r - 1)) := minLD_is (by
      intro v hv
      obtain ⟨z, hz, a, rfl⟩ := (mem v).mp hv
      exact h2 z hz a) ((mem _).mpr h1)
    have ll : lenD (.list ((stR rows).map .int)) = .ok (.int (stR rows).length) := by show R.ok (PyData.int (((stR rows).map PyData.int).length : Nat)) = _; rw [List.length_map]
    have lp : 0 < (stR rows).length := List.length_pos_of_mem ((mem _).mpr h1)
    have n1 : ¬ ("falls" : Str) = "stands" := fun e => lab_ne.1 e.symm
    generalize rwI ("falls", r) = Y at *
    generalize (rows.map (·.1)).map PyData.str = LS at *
    generalize hS : (stR rows).length = sl at *
    generalize (stR rows).map PyData.int = SS at *
    generalize rows.map rwI = RR at *
    have e : 1 + (r - 1) = r := by omega
    simp [y0, y1, n1, ll, -lenD_list, lp, mn, e]
  · injection hx with hx hr
    subst hx
    subst hr
    have hs : stR rows = [] := by
      unfold stR
      rw [List.map_eq_nil_iff, List.filter_eq_nil_iff]
      intro z hz
      simpa using h1 z hz
    have iu := in_strs "unsettled" (rows.map (·.1))
    rw [decide_eq_true (by
      obtain ⟨z, hz, e⟩ := h2
      exact List.mem_map.mpr ⟨z, hz, e⟩)] at iu
    have n1 : ¬ ("unsettled" : Str) = "stands" := fun e => lab_ne.2.1 e.symm
    have n2 : ¬ ("unsettled" : Str) = "falls" := fun e => lab_ne.2.2.1 e.symm
    rw [hs]
    generalize rwI ("unsettled", 0) = Y at *
    generalize (rows.map (·.1)).map PyData.str = LS at *
    generalize rows.map rwI = RR at *
    simp [y0, y1, n1, n2, iu]
end Pv.K44


namespace Pv.K44
open PySem PySem.Spec L2
open PyProof.Rows hiding St

/-! ### the law's is_settlement; raised ranks -/
def GF (F : Fd) : RowF := fun m => toI (F m)
theorem valD_I (n : Nat) (F : Fd) : valD n F = valI n (GF F) := by
  unfold valD valI rowsL GF
  simp only [rw_toI]
theorem GF_ok (F : Fd) (m : Nat) : LbOk (GF F m).1 := by
  unfold GF
  cases F m with
  | none => exact .inr (.inr rfl)
  | some y =>
    obtain ⟨b, k⟩ := y
    cases b
    · exact .inr (.inl rfl)
    · exact .inl rfl
theorem GF_pos (F : Fd) (m : Nat) : 0 ≤ (GF F m).2 := by
  unfold GF
  cases F m with
  | none => exact Int.le_refl 0
  | some y => exact Int.natCast_nonneg _
theorem GF_st {F : Fd} {u : Nat} (h : (GF F u).1 = "stands") : ∃ k, F u = some (true, k) ∧ (GF F u).2 = k := by
  unfold GF at *
  cases hf : F u with
  | none => rw [hf] at h; exact absurd h.symm lab_ne.2.1
  | some y =>
    obtain ⟨b, k⟩ := y
    rw [hf] at h
    cases b with
    | true => exact ⟨k, rfl, rfl⟩
    | false => exact absurd h.symm lab_ne.1
theorem GF_un {F : Fd} {u : Nat} (h : (GF F u).1 = "unsettled") : F u = none := by
  unfold GF at *
  cases hf : F u with
  | none => rfl
  | some y =>
    obtain ⟨b, k⟩ := y
    rw [hf] at h
    cases b with
    | true => exact absurd h lab_ne.2.1
    | false => exact absurd h lab_ne.2.2.1
theorem rule_holds {n : Nat} {P : List NP} {F : Fd} (R : Rules n P F) {m : Nat} (hm : m < n) :
    ((GF F m).1 = "stands" ∧ (∀ z ∈ (ups P m).map (GF F), z.1 = "falls" ∧ z.2 ≤ (GF F m).2 - 1) ∧ 1 ≤ (GF F m).2 ∧ ((GF F m).2 - 1 = 0 ∨ ∃ z ∈ (ups P m).map (GF F), z.2 = (GF F m).2 - 1)) ∨ ((GF F m).1 = "falls" ∧ (∃ z ∈ (ups P m).map (GF F), z.1 = "stands" ∧ z.2 = (GF F m).2 - 1) ∧ ∀ z ∈ (ups P m).map (GF F), z.1 = "stands" → (GF F m).2 - 1 ≤ z.2) ∨ (GF F m = ((("unsettled" : Str), (0 : Int)) : RI) ∧ (∀ z ∈ (ups P m).map (GF F), z.1 ≠ "stands") ∧ ∃ z ∈ (ups P m).map (GF F), z.1 = "unsettled") := by
  cases hf : F m with
  | none =>
    right; right
    obtain ⟨h1, u, hu, h2⟩ := R.un m hm hf
    refine ⟨by unfold GF; rw [hf]; rfl, ?_, ?_⟩
    · intro z hz e
      obtain ⟨v, hv, rfl⟩ := List.mem_map.mp hz
      obtain ⟨k, e1, _⟩ := GF_st e
      exact h1 v hv k e1
    · exact ⟨_, List.mem_map.mpr ⟨u, hu, rfl⟩, by unfold GF; rw [h2]; rfl⟩
  | some y =>
    obtain ⟨b, k⟩ := y
    have hk := R.pos m b k hf
    cases b with
    | true =>
      left
      obtain ⟨h1, h2⟩ := R.st m hm k hf
      have e1 : GF F m = (("stands" : Str), (k : Int)) := by unfold GF; rw [hf]; rfl
      rw [e1]
      refine ⟨rfl, ?_, by show 1 ≤ (k : Int); omega, ?_⟩
      · intro z hz
        obtain ⟨u, hu, rfl⟩ := List.mem_map.mp hz
        obtain ⟨j, e, hj⟩ := h1 u hu
        have e2 : GF F u = (("falls" : Str), (j : Int)) := by unfold GF; rw [e]; rfl
        rw [e2]
        exact ⟨rfl, by show (j : Int) ≤ (k : Int) - 1; omega⟩
      · rcases h2 with h2 | ⟨u, hu, e⟩
        · left
          show (k : Int) - 1 = 0
          omega
        · right
          refine ⟨_, List.mem_map.mpr ⟨u, hu, rfl⟩, ?_⟩
          have e2 : GF F u = (("falls" : Str), ((k - 1 : Nat) : Int)) := by unfold GF; rw [e]; rfl
          rw [e2]
          show ((k - 1 : Nat) : Int) = (k : Int) - 1
          omega
    | false =>
      right; left
      obtain ⟨⟨u, hu, e⟩, h2⟩ := R.fa m hm k hf
      have e1 : GF F m = (("falls" : Str), (k : Int)) := by unfold GF; rw [hf]; rfl
      rw [e1]
      refine ⟨rfl, ⟨_, List.mem_map.mpr ⟨u, hu, rfl⟩, ?_⟩, ?_⟩
      · have e2 : GF F u = (("stands" : Str), ((k - 1 : Nat) : Int)) := by unfold GF; rw [e]; rfl
        rw [e2]
        refine ⟨rfl, ?_⟩
        show ((k - 1 : Nat) : Int) = (k : Int) - 1
        omega
      · intro z hz e
        obtain ⟨v, hv, rfl⟩ := List.mem_map.mp hz
        obtain ⟨j, e1, e2⟩ := GF_st e
        have := h2 v hv j e1
        rw [e2]
        show (k : Int) - 1 ≤ (j : Int)
        omega
theorem u_lset_row (Φ : Ph) (y : RI) (hy : 0 ≤ y.2) (s0 s1 s2 s4 : Sl) : b__law_is_settlement_0 Φ [s0, s1, s2, .dat (rwI y) false, s4] = .nx [s0, s1, s2, .dat (rwI y) false, s4] := by
  have h1 := rI_0 y
  have h2 := rI_1 y
  have h3 : ¬ y.2 < 0 := by omega
  have h4 : lenD (rwI y) = .ok (.int 2) := rfl
  have h5 : tyD (rwI y) = "tuple" := rfl
  generalize rwI y = Y at *
  simp [b__law_is_settlement_0, h1, h2, h3, h4, h5]
theorem v__law_is_settlement (k n : Nat) (hn : n ≤ 1000) (P : List NP) (hP : ∀ p ∈ P, OvP n p) (hl : P.length ≤ 1000) (F : Fd) (RU : Rules n P F) : Ev (k + 2) f__law_is_settlement [.int n, pvD P, valI n (GF F)] = .ok (.bool true) := by
  refine (e__law_is_settlement (k + 1) _).trans ?_
  have h1 := fun m => v__law_above k n P hP (GF F) m
  have h2 : ∀ m, m < n → Ev (k + 1) f__law_rule [rwI (GF F m), .list (((ups P m).map (GF F)).map rwI)] = .ok (.bool true) := fun m hm => (e__law_rule k _).trans (u_rule _ _ _ (by
    rw [List.length_map]
    have := ups_len P m
    omega) (rule_holds RU hm))
  generalize Ev (k + 1) = Φ at *
  have hlen := rowsL_len n (GF F)
  obtain ⟨y3, g1⟩ := forL_same (fun m : Nat => rwI (GF F m)) (fun y => [.dat (.int n) false, .dat (pvD P) false, .dat (valI n (GF F)) false, y, .no]) (i := 3) (b := b__law_is_settlement_0 Φ) (List.range n) (fun x y => rfl) (fun m _ => u_lset_row Φ _ (GF_pos F m) _ _ _ _) .no
  have g1 : forL (.one 3) (b__law_is_settlement_0 Φ) (rowsL n (GF F)) [.dat (.int n) false, .dat (pvD P) false, .dat (valI n (GF F)) false, .no, .no] = .nx [.dat (.int n) false, .dat (pvD P) false, .dat (valI n (GF F)) false, y3, .no] := g1
  obtain ⟨y4, g2⟩ := forL_same natD (fun y => [.dat (.int n) false, .dat (pvD P) false, .dat (valI n (GF F)) false, y3, y]) (i := 4) (b := b__law_is_settlement_1 Φ) (List.range n) (fun x y => rfl) (by
    intro m hm
    have hm : m < n := by simpa using hm
    have a1 := h1 m
    have a2 := h2 m hm
    have a3 := val_at (G := GF F) hm
    generalize valI n (GF F) = V at *
    generalize pvD P = PD at *
    generalize rwI (GF F m) = Y at *
    generalize ((ups P m).map (GF F)).map rwI = RR at *
    simp [b__law_is_settlement_1, natD, a1, a2, a3]) .no
  have hr := cRange1_nat (n := n) (a := cVarB 0) (ρ := [.dat (.int n) false, .dat (pvD P) false, .dat (valI n (GF F)) false, y3, .no]) (by simp) (by omega)
  have hll : lenD (valI n (GF F)) = .ok (.int n) := by show R.ok (PyData.int ((rowsL n (GF F)).length : Nat)) = _; rw [hlen]
  have hli : itD (valI n (GF F)) = .ok (rowsL n (GF F)) := rfl
  have hty : tyD (valI n (GF F)) = "list" := rfl
  rw [run_of (ρ := [.dat (.int n) false, .dat (pvD P) false, .dat (valI n (GF F)) false, .no, .no]) rfl rfl]
  unfold t__law_is_settlement
  rw [seq_nx (ρ' := [.dat (.int n) false, .dat (pvD P) false, .dat (valI n (GF F)) false, .no, .no]) (by
    generalize valI n (GF F) = V at *
    generalize pvD P = PD at *
    simp [hty, hll])]
  have s2 : disow [2] (sFor (cItE (cVar 2)) (.one 3) (b__law_is_settlement_0 Φ)) [.dat (.int n) false, .dat (pvD P) false, .dat (valI n (GF F)) false, .no, .no] = .nx [.dat (.int n) false, .dat (pvD P) false, .dat (valI n (GF F)) false, y3, .no] := by
    rw [disow_ap]
    exact for_nx (by
      show cItE (cVar 2) [.dat (.int n) false, .dat (pvD P) false, .dat (valI n (GF F)) false, .no, .no] = _
      simp [hli]) g1
  rw [seq_nx s2]
  rw [seq_nx (for_nx0 hr g2)]
  generalize valI n (GF F) = V at *
  generalize pvD P = PD at *
  simp
/-- raised ranks -/
def raiF (f mo : Nat) (F : Fd) : Fd := fun m => (F m).map fun y => (y.1, y.2 * f + mo)
theorem v__law_raised (k n : Nat) (hn : n ≤ 1000) (F : Fd) (f mo : Nat) (hf : f ≤ 1000) : Ev (k + 1) f__law_raised [valI n (GF F), .int f, .int mo] = .ok (valI n (GF (raiF f mo F))) := by
  refine (e__law_raised k _).trans ?_
  generalize Ev k = Φ
  obtain ⟨ρ', g1, y4, y5, rfl⟩ := forL_inv (fun m : Nat => rwI (GF F m)) (fun done ρ => ∃ y4 y5, ρ = [.dat (valI n (GF F)) false, .dat (.int f) false, .dat (.int mo) false, .dat (.list (done.map fun m => rwI (GF (raiF f mo F) m))) true, y4, y5]) (i := 4) (b := b__law_raised_0 Φ) (List.range n) (by
    rintro done m rest ρ e ⟨y4, y5, rfl⟩
    obtain ⟨hm, he⟩ := range_at e
    have hl : (done.map fun m => rwI (GF (raiF f mo F) m)).length < 16000000 := by rw [List.length_map]; omega
    have h0 := rI_0 (GF F m)
    have h1 := rI_1 (GF F m)
    have mu := mulI_intr (GF F m).2 f (by omega)
    refine ⟨_, .inl (?_ : b__law_raised_0 Φ [.dat (valI n (GF F)) false, .dat (.int f) false, .dat (.int mo) false, .dat (.list (done.map fun m => rwI (GF (raiF f mo F) m))) true, .dat (rwI (GF F m)) false, y5] = .nx [.dat (valI n (GF F)) false, .dat (.int f) false, .dat (.int mo) false, .dat (.list (done.map (fun m => rwI (GF (raiF f mo F) m)) ++ [rwI (GF (raiF f mo F) m)])) true, .dat (rwI (GF F m)) false, .dat (.int (GF (raiF f mo F) m).2) false]), .dat (rwI (GF F m)) false, .dat (.int (GF (raiF f mo F) m).2) false, by rw [List.map_append]; rfl⟩
    have e0 : (GF (raiF f mo F) m).1 = (GF F m).1 := by
      unfold GF raiF
      cases F m <;> rfl
    have e1 : (GF (raiF f mo F) m).2 = if (GF F m).1 = "unsettled" then 0 else (GF F m).2 * f + mo := by
      unfold GF raiF
      cases hfm : F m with
      | none => rfl
      | some y =>
        obtain ⟨b, r⟩ := y
        have hne : ¬ labD b = "unsettled" := by cases b <;> decide +kernel
        show ((r * f + mo : Nat) : Int) = if labD b = "unsettled" then 0 else (r : Int) * f + mo
        rw [if_neg hne, Int.natCast_add, Int.natCast_mul]
    have er : rwI (GF (raiF f mo F) m) = .tuple [.str (GF F m).1, .int (GF (raiF f mo F) m).2] := by unfold rwI; rw [e0]
    rw [er]
    generalize (done.map fun m => rwI (GF (raiF f mo F) m)) = DD at *
    generalize valI n (GF F) = V at *
    generalize (GF (raiF f mo F) m).2 = r' at *
    generalize rwI (GF F m) = Y at *
    generalize (GF F m).2 = r at *
    generalize (GF F m).1 = x at *
    by_cases hx : x = "unsettled"
    · rw [if_pos hx] at e1
      simp [b__law_raised_0, h0, h1, mu, hx, e1, hl]
    · rw [if_neg hx] at e1
      simp [b__law_raised_0, h0, h1, mu, hx, e1, hl]) (ρ := [.dat (valI n (GF F)) false, .dat (.int f) false, .dat (.int mo) false, .dat (.list []) true, .no, .no]) ⟨.no, .no, rfl⟩
  have g1 : forL (.one 4) (b__law_raised_0 Φ) (rowsL n (GF F)) [.dat (valI n (GF F)) false, .dat (.int f) false, .dat (.int mo) false, .dat (.list []) true, .no, .no] = .nx [.dat (valI n (GF F)) false, .dat (.int f) false, .dat (.int mo) false, .dat (valI n (GF (raiF f mo F))) true, y4, y5] := g1
  rw [run_of (ρ := [.dat (valI n (GF F)) false, .dat (.int f) false, .dat (.int mo) false, .no, .no, .no]) rfl rfl]
  unfold t__law_raised
  rw [seq_nx (ρ' := [.dat (valI n (GF F)) false, .dat (.int f) false, .dat (.int mo) false, .dat (.list []) true, .no, .no]) (by simp)]
  have hli : itD (valI n (GF F)) = .ok (rowsL n (GF F)) := rfl
  have s2 : disow [0] (sFor (cItE (cVar 0)) (.one 4) (b__law_raised_0 Φ)) [.dat (valI n (GF F)) false, .dat (.int f) false, .dat (.int mo) false, .dat (.list []) true, .no, .no] = .nx [.dat (valI n (GF F)) false, .dat (.int f) false, .dat (.int mo) false, .dat (valI n (GF (raiF f mo F))) true, y4, y5] := by
    rw [disow_ap]
    exact for_nx (by
      show cItE (cVar 0) [.dat (valI n (GF F)) false, .dat (.int f) false, .dat (.int mo) false, .dat (.list []) true, .no, .no] = _
      simp [hli]) g1
  rw [seq_nx s2]
  generalize valI n (GF F) = V at *
  unfold valI
  simp
end Pv.K44


namespace Pv.K44
open PySem PySem.Spec L2
open PyProof.Rows hiding St

/-! ### raised ranks are settled, changed rows are not -/
structure Lab (n : Nat) (P : List NP) (F : Fd) : Prop where
  st : ∀ m, m < n → ∀ k, F m = some (true, k) → 1 ≤ k ∧ ∀ u ∈ ups P m, ∃ j, F u = some (false, j) ∧ j < k
  fa : ∀ m, m < n → ∀ k, F m = some (false, k) → 1 ≤ k ∧ ∃ u ∈ ups P m, ∃ j, F u = some (true, j) ∧ j < k
  un : ∀ m, m < n → F m = none → (∀ u ∈ ups P m, ∀ j, F u ≠ some (true, j)) ∧ ∃ u ∈ ups P m, F u = none
theorem rai_some {f mo : Nat} {F : Fd} {m : Nat} {b : Bool} {k : Nat} (h : raiF f mo F m = some (b, k)) : ∃ r, F m = some (b, r) ∧ k = r * f + mo := by
  obtain ⟨⟨b', r⟩, h1, h2⟩ := Option.map_eq_some_iff.mp h
  injection h2 with h2 h3
  subst h2
  exact ⟨r, h1, h3.symm⟩
theorem rai_of {f mo : Nat} {F : Fd} {m : Nat} {b : Bool} {r : Nat} (h : F m = some (b, r)) : raiF f mo F m = some (b, r * f + mo) := by
  unfold raiF
  rw [h]; rfl
theorem rai_lt {f mo r s : Nat} (hf : 1 ≤ f) (h : r < s) : r * f + mo < s * f + mo := by
  have := Nat.mul_lt_mul_of_pos_right h hf
  omega
theorem rai_pos {f mo r : Nat} (hf : 1 ≤ f) (h : 1 ≤ r) : 1 ≤ r * f + mo := by
  have := Nat.mul_le_mul h hf
  omega
theorem lab_rai {n : Nat} {P : List NP} {F : Fd} (RU : Rules n P F) {f mo : Nat} (hf : 1 ≤ f) : Lab n P (raiF f mo F) := by
  refine ⟨?_, ?_, ?_⟩
  · intro m hm k h
    obtain ⟨r, h1, rfl⟩ := rai_some h
    have hr := RU.pos m _ _ h1
    refine ⟨rai_pos hf hr, fun u hu => ?_⟩
    obtain ⟨j, e, hj⟩ := (RU.st m hm r h1).1 u hu
    exact ⟨_, rai_of e, rai_lt hf hj⟩
  · intro m hm k h
    obtain ⟨r, h1, rfl⟩ := rai_some h
    have hr := RU.pos m _ _ h1
    obtain ⟨u, hu, e⟩ := (RU.fa m hm r h1).1
    exact ⟨rai_pos hf hr, u, hu, _, rai_of e, rai_lt hf (by omega)⟩
  · intro m hm h
    have h1 : F m = none := Option.map_eq_none_iff.mp h
    obtain ⟨a, u, hu, e⟩ := RU.un m hm h1
    refine ⟨fun v hv j z => ?_, u, hu, by unfold raiF; rw [e]; rfl⟩
    obtain ⟨r, e1, _⟩ := rai_some z
    exact a v hv r e1
theorem gf_t {F : Fd} {m k : Nat} (h : F m = some (true, k)) : GF F m = (("stands" : Str), (k : Int)) := by unfold GF; rw [h]; rfl
theorem gf_f {F : Fd} {m k : Nat} (h : F m = some (false, k)) : GF F m = (("falls" : Str), (k : Int)) := by unfold GF; rw [h]; rfl
theorem gf_n {F : Fd} {m : Nat} (h : F m = none) : GF F m = (("unsettled" : Str), (0 : Int)) := by unfold GF; rw [h]; rfl
/-! what a label asks -/
theorem mem_fst {x : Str} {rows : List RI} : x ∈ rows.map (·.1) ↔ ∃ z ∈ rows, z.1 = x := List.mem_map
theorem right_un {r : Int} {rows : List RI} : rightB ((("unsettled" : Str), r) : RI) rows = (decide (r = 0) && (!decide (("stands" : Str) ∈ rows.map (·.1)) && decide (("unsettled" : Str) ∈ rows.map (·.1)))) := by
  unfold rightB
  rw [if_pos rfl]
theorem right_fa {r : Int} {rows : List RI} : rightB ((("falls" : Str), r) : RI) rows = if r < 1 then false else decide (("stands" : Str) ∈ (rows.filter fun z => decide (z.2 < r)).map (·.1)) := by
  unfold rightB
  rw [if_neg lab_ne.2.2.1, if_pos (rfl : ("falls" : Str) = "falls")]
theorem right_st {r : Int} {rows : List RI} : rightB ((("stands" : Str), r) : RI) rows = if r < 1 then false else decide (((rows.filter fun z => decide (z.2 < r)).map (·.1)).count ("falls" : Str) = rows.length) := by
  unfold rightB
  rw [if_neg lab_ne.2.1, if_neg (c := ("stands" : Str) = "falls") lab_ne.1]
/-- not all fall, or one is not below -/
theorem st_false {r : Int} {rows : List RI} (h : ∃ z ∈ rows, z.1 ≠ "falls" ∨ ¬ z.2 < r) : rightB ((("stands" : Str), r) : RI) rows = false := by
  rw [right_st]
  split
  · rfl
  · apply decide_eq_false
    intro e
    have h1 := List.count_le_length (a := ("falls" : Str)) (l := (rows.filter fun z => decide (z.2 < r)).map (·.1))
    rw [e, List.length_map] at h1
    have h2 := List.length_filter_le (fun z : RI => decide (z.2 < r)) rows
    have h3 : (rows.filter fun z => decide (z.2 < r)).length = rows.length := by omega
    have h4 := List.length_filter_eq_length_iff.mp h3
    rw [← h3] at e
    have h5 := List.count_eq_length.mp (e.trans (List.length_map (as := rows.filter fun z => decide (z.2 < r)) (·.1)).symm)
    obtain ⟨z, hz, hc⟩ := h
    have hlt := of_decide_eq_true (h4 z hz)
    rcases hc with hc | hc
    · exact hc (h5 z.1 (List.mem_map.mpr ⟨z, List.mem_filter.mpr ⟨hz, h4 z hz⟩, rfl⟩)).symm
    · exact hc hlt
theorem fa_false {r : Int} {rows : List RI} (h : ∀ z ∈ rows, z.1 = "stands" → ¬ z.2 < r) : rightB ((("falls" : Str), r) : RI) rows = false := by
  rw [right_fa]
  split
  · rfl
  · apply decide_eq_false
    intro e
    obtain ⟨z, hz, e1⟩ := mem_fst.mp e
    obtain ⟨h1, h2⟩ := List.mem_filter.mp hz
    exact h z h1 e1 (of_decide_eq_true h2)
theorem un_false {r : Int} {rows : List RI} (h : r ≠ 0 ∨ (∃ z ∈ rows, z.1 = "stands") ∨ ∀ z ∈ rows, z.1 ≠ "unsettled") : rightB ((("unsettled" : Str), r) : RI) rows = false := by
  rw [right_un]
  rcases h with h | h | h
  · rw [decide_eq_false h]; rfl
  · rw [decide_eq_true (p := ("stands" : Str) ∈ rows.map (·.1)) (mem_fst.mpr h)]
    simp
  · rw [decide_eq_false (p := ("unsettled" : Str) ∈ rows.map (·.1)) (fun e => by
      obtain ⟨z, hz, e1⟩ := mem_fst.mp e
      exact h z hz e1)]
    simp
theorem lab_right {n : Nat} {P : List NP} {F : Fd} (L : Lab n P F) {m : Nat} (hm : m < n) : rightB (GF F m) ((ups P m).map (GF F)) = true := by
  cases hf : F m with
  | none =>
    obtain ⟨h1, u, hu, h2⟩ := L.un m hm hf
    rw [gf_n hf, right_un]
    rw [decide_eq_false (p := ("stands" : Str) ∈ ((ups P m).map (GF F)).map (·.1)) (fun e => by
      obtain ⟨z, hz, e1⟩ := mem_fst.mp e
      obtain ⟨v, hv, rfl⟩ := List.mem_map.mp hz
      obtain ⟨k, e2, _⟩ := GF_st e1
      exact h1 v hv k e2), decide_eq_true (p := ("unsettled" : Str) ∈ ((ups P m).map (GF F)).map (·.1)) (mem_fst.mpr ⟨_, List.mem_map.mpr ⟨u, hu, rfl⟩, by rw [gf_n h2]⟩)]
    rfl
  | some y =>
    obtain ⟨b, k⟩ := y
    cases b with
    | true =>
      obtain ⟨hk, h1⟩ := L.st m hm k hf
      rw [gf_t hf, right_st, if_neg (by omega)]
      have all : ∀ z ∈ (ups P m).map (GF F), z.1 = ("falls" : Str) ∧ z.2 < (k : Int) := by
        intro z hz
        obtain ⟨u, hu, rfl⟩ := List.mem_map.mp hz
        obtain ⟨j, e, hj⟩ := h1 u hu
        rw [gf_f e]
        exact ⟨rfl, by show (j : Int) < k; omega⟩
      apply decide_eq_true
      have e1 : ((ups P m).map (GF F)).filter (fun z => decide (z.2 < (k : Int))) = (ups P m).map (GF F) := List.filter_eq_self.mpr fun z hz => decide_eq_true (all z hz).2
      rw [e1]
      have := List.count_eq_length (a := ("falls" : Str)) (l := ((ups P m).map (GF F)).map (·.1))
      rw [List.length_map] at this
      rw [this]
      intro b hb
      obtain ⟨z, hz, rfl⟩ := mem_fst.mp hb
      exact (all z hz).1.symm
    | false =>
      obtain ⟨hk, u, hu, j, e, hj⟩ := L.fa m hm k hf
      rw [gf_f hf, right_fa, if_neg (by omega)]
      apply decide_eq_true
      refine mem_fst.mpr ⟨GF F u, List.mem_filter.mpr ⟨List.mem_map.mpr ⟨u, hu, rfl⟩, ?_⟩, by rw [gf_t e]⟩
      rw [gf_t e]
      apply decide_eq_true
      show (j : Int) < k
      omega
theorem lab_set {n : Nat} {P : List NP} {F : Fd} (L : Lab n P F) : setB n P (GF F) = true := by
  unfold setB
  rw [List.all_eq_true]
  intro m hm
  exact lab_right L (by simpa using hm)
/-- another label is wrong, whatever the rank -/
theorem lab_other {n : Nat} {P : List NP} {F : Fd} (L : Lab n P F) {m : Nat} (hm : m < n) (x : Str) (hx : LbOk x) (hne : x ≠ (GF F m).1) (r : Int) : rightB ((x, r) : RI) ((ups P m).map (GF F)) = false := by
  cases hf : F m with
  | none =>
    obtain ⟨h1, u, hu, h2⟩ := L.un m hm hf
    rw [gf_n hf] at hne
    rcases hx with rfl | rfl | rfl
    · refine st_false ⟨_, List.mem_map.mpr ⟨u, hu, rfl⟩, .inl ?_⟩
      rw [gf_n h2]
      exact fun e => lab_ne.2.2.1 e.symm
    · refine fa_false fun z hz e => ?_
      obtain ⟨v, hv, rfl⟩ := List.mem_map.mp hz
      obtain ⟨k, e2, _⟩ := GF_st e
      exact absurd e2 (h1 v hv k)
    · exact absurd rfl hne
  | some y =>
    obtain ⟨b, k⟩ := y
    cases b with
    | true =>
      obtain ⟨hk, h1⟩ := L.st m hm k hf
      rw [gf_t hf] at hne
      have all : ∀ z ∈ (ups P m).map (GF F), z.1 = ("falls" : Str) := by
        intro z hz
        obtain ⟨u, hu, rfl⟩ := List.mem_map.mp hz
        obtain ⟨j, e, hj⟩ := h1 u hu
        rw [gf_f e]
      rcases hx with rfl | rfl | rfl
      · exact absurd rfl hne
      · exact fa_false fun z hz e => absurd ((all z hz).symm.trans e) (fun z => lab_ne.1 z.symm)
      · exact un_false (.inr (.inr fun z hz e => lab_ne.2.2.1 ((all z hz).symm.trans e)))
    | false =>
      obtain ⟨hk, u, hu, j, e, hj⟩ := L.fa m hm k hf
      rw [gf_f hf] at hne
      have hz : GF F u ∈ (ups P m).map (GF F) := List.mem_map.mpr ⟨u, hu, rfl⟩
      rcases hx with rfl | rfl | rfl
      · refine st_false ⟨_, hz, .inl ?_⟩
        rw [gf_t e]
        exact lab_ne.1
      · exact absurd rfl hne
      · exact un_false (.inr (.inl ⟨_, hz, by rw [gf_t e]⟩))
/-! the lowest rank that is too small -/
theorem maxLD_ex (l : List Int) : ∃ M : Int, maxLD (.list (.int 0 :: l.map .int)) = .ok (.int M) ∧ (M = 0 ∨ M ∈ l) := by
  have go : ∀ (l : List Int) (a : Int), l.foldl max a = a ∨ l.foldl max a ∈ l := by
    intro l
    induction l with
    | nil => intro a; exact .inl rfl
    | cons x l ih =>
      intro a
      rcases ih (max a x) with h | h
      · show l.foldl max (max a x) = a ∨ l.foldl max (max a x) ∈ x :: l
        rw [h]
        by_cases hx : a ≤ x
        · right; rw [show max a x = x by omega]; exact List.mem_cons_self
        · left; omega
      · exact .inr (List.mem_cons_of_mem _ h)
  refine ⟨l.foldl max 0, ?_, go l 0⟩
  have e : intsOf (.int 0 :: l.map .int) = some (0 :: l) := intsOf_ints (0 :: l)
  show (match (intsOf (.int 0 :: l.map .int)).bind maxOf with | some m => R.ok (PyData.int m) | none => .bad) = _
  rw [e]
  rfl
theorem minLD_ex {l : List Int} (h : l ≠ []) : ∃ M : Int, minLD (.list (l.map .int)) = .ok (.int M) ∧ ∀ x ∈ l, M ≤ x := by
  have go : ∀ (l : List Int) (a : Int), l.foldl min a ≤ a ∧ ∀ x ∈ l, l.foldl min a ≤ x := by
    intro l
    induction l with
    | nil => intro a; exact ⟨Int.le_refl a, by simp⟩
    | cons x l ih =>
      intro a
      obtain ⟨h1, h2⟩ := ih (min a x)
      show l.foldl min (min a x) ≤ a ∧ ∀ y ∈ x :: l, l.foldl min (min a x) ≤ y
      refine ⟨by omega, fun y hy => ?_⟩
      rcases List.mem_cons.mp hy with rfl | hy
      · omega
      · exact h2 y hy
  cases l with
  | nil => exact absurd rfl h
  | cons x l =>
    obtain ⟨h1, h2⟩ := go l x
    refine ⟨l.foldl min x, ?_, fun y hy => ?_⟩
    · show (match (intsOf ((x :: l).map .int)).bind minOf with | some m => R.ok (PyData.int m) | none => .bad) = _
      rw [intsOf_ints]
      rfl
    · rcases List.mem_cons.mp hy with rfl | hy
      · exact h1
      · exact h2 y hy
end Pv.K44


namespace Pv.K44
open PySem PySem.Spec L2
open PyProof.Rows hiding St

/-! ### changed rows -/
theorem u__law_lowest (Φ : Ph) {n : Nat} {P : List NP} {F : Fd} (L : Lab n P F) {m : Nat} (hm : m < n) (hlen : P.length ≤ 1000) : ∃ lo : Int, runC (t__law_lowest Φ) N__law_lowest P__law_lowest [rwI (GF F m), .list (((ups P m).map (GF F)).map rwI)] = .ok (.int lo) ∧ rightB (((GF F m).1, lo) : RI) ((ups P m).map (GF F)) = false := by
  have z0 : sizeLine = 16777216 := rfl
  have y0 := rI_0 (GF F m)
  have hrl : ((ups P m).map (GF F)).length ≤ 1000 := by
    rw [List.length_map]
    have := ups_len P m
    omega
  cases hf : F m with
  | none =>
    refine ⟨1, ?_, by rw [gf_n hf]; exact un_false (.inl (by decide))⟩
    rw [gf_n hf] at y0 ⊢
    have n1 : ¬ ("unsettled" : Str) = "stands" := fun e => lab_ne.2.1 e.symm
    have n2 : ¬ ("unsettled" : Str) = "falls" := fun e => lab_ne.2.2.1 e.symm
    generalize rwI _ = Y at *
    generalize ((ups P m).map (GF F)).map rwI = RR at *
    simp [t__law_lowest, y0, n1, n2]
  | some y =>
    obtain ⟨b, k⟩ := y
    cases b with
    | true =>
      obtain ⟨hk, h1⟩ := L.st m hm k hf
      rw [gf_t hf] at y0 ⊢
      generalize hrows : (ups P m).map (GF F) = rows at *
      obtain ⟨lo, e1, e2⟩ := maxLD_ex (rows.map (·.2))
      have hq := compL_on_all rwI (fun z : RI => PyData.int z.2) (i := 2) (e := c__law_lowest_0 Φ) (ρ := [.dat (rwI (("stands" : Str), (k : Int))) false, .dat (.list (rows.map rwI)) false, .no]) (l := rows) (by
        intro z _
        have := rI_1 z
        simp [c__law_lowest_0, this])
      have ei : rows.map (fun z : RI => PyData.int z.2) = (rows.map (·.2)).map .int := by rw [List.map_map]; rfl
      rw [ei] at hq
      have ad : addD (.list [.int 0]) (.list ((rows.map (·.2)).map .int)) = .ok (.list (.int 0 :: (rows.map (·.2)).map .int)) := addL _ _ (by simp; omega)
      refine ⟨lo, ?_, ?_⟩
      · generalize rwI (("stands" : Str), (k : Int)) = Y at *
        generalize (rows.map (·.2)).map PyData.int = RK at *
        generalize rows.map rwI = RR at *
        simp [t__law_lowest, y0, hq, ad, e1]
      · rcases e2 with rfl | e2
        · rw [right_st, if_pos (by decide)]
        · obtain ⟨z, hz, rfl⟩ := List.mem_map.mp e2
          exact st_false ⟨z, hz, .inr (by omega)⟩
    | false =>
      obtain ⟨hk, u, hu, j, e, hj⟩ := L.fa m hm k hf
      rw [gf_f hf] at y0 ⊢
      have hz : GF F u ∈ (ups P m).map (GF F) := List.mem_map.mpr ⟨u, hu, rfl⟩
      have hs : (GF F u).1 = "stands" := by rw [gf_t e]
      generalize hrows : (ups P m).map (GF F) = rows at *
      have mem : ∀ v, v ∈ stR rows ↔ ∃ z ∈ rows, z.1 = "stands" ∧ z.2 = v := by
        intro v
        unfold stR
        rw [List.mem_map]
        constructor
        · rintro ⟨z, hz, e⟩
          obtain ⟨a, b⟩ := List.mem_filter.mp hz
          exact ⟨z, a, of_decide_eq_true b, e⟩
        · rintro ⟨z, hz, b, e⟩
          exact ⟨z, List.mem_filter.mpr ⟨hz, decide_eq_true b⟩, e⟩
      have hne : stR rows ≠ [] := List.ne_nil_of_mem ((mem _).mpr ⟨_, hz, hs, rfl⟩)
      obtain ⟨lo, e1, e2⟩ := minLD_ex hne
      have hq := compL_on rwI (fun z : RI => decide (z.1 = "stands")) (fun z : RI => PyData.int z.2) (i := 2) (t := q__law_lowest_0 Φ) (e := c__law_lowest_1 Φ) (ρ := [.dat (rwI (("falls" : Str), (k : Int))) false, .dat (.list (rows.map rwI)) false, .no]) (l := rows) (by
        intro z _
        have h0 := rI_0 z
        have h1 := rI_1 z
        exact ⟨by simp [q__law_lowest_0, h0], fun _ => by simp [c__law_lowest_1, h1]⟩)
      have ei : (rows.filter fun z : RI => decide (z.1 = "stands")).map (fun z : RI => PyData.int z.2) = (stR rows).map .int := by unfold stR; rw [List.map_map]; rfl
      rw [ei] at hq
      refine ⟨lo, ?_, fa_false fun z hz e => by have := e2 z.2 ((mem _).mpr ⟨z, hz, e, rfl⟩); omega⟩
      have n1 : ¬ ("falls" : Str) = "stands" := fun e => lab_ne.1 e.symm
      generalize rwI (("falls" : Str), (k : Int)) = Y at *
      generalize (stR rows).map PyData.int = RK at *
      generalize rows.map rwI = RR at *
      simp [t__law_lowest, y0, n1, hq, e1]
/-- no right row -/
def BadR (rows : List RI) (d : PyData) : Prop := rowB d = false ∨ ∃ y : RI, d = rwI y ∧ LbOk y.1 ∧ rightB y rows = false
theorem u__law_changed (Φ : Ph) (y : RI) (rows : List RI) (P V m : PyData) (lo : Int) (hy : LbOk y.1) (hv : ixD V m = .ok (rwI y)) (ha : Φ f__law_above [P, V, m] = .ok (.list (rows.map rwI))) (hlo : Φ f__law_lowest [rwI y, .list (rows.map rwI)] = .ok (.int lo)) (b1 : rightB ((y.1, lo) : RI) rows = false) (b2 : rightB ((y.1, -1 - y.2) : RI) rows = false) (b3 : ∀ x, LbOk x → x ≠ y.1 → ∀ r, rightB ((x, r) : RI) rows = false) :
    ∃ L : List PyData, runC (t__law_changed Φ) N__law_changed P__law_changed [P, V, m] = .ok (.list L) ∧ (∀ d ∈ L, BadR rows d) ∧ L.length ≤ 100 := by
  have z0 : sizeLine = 16777216 := rfl
  have y0 := rI_0 y
  have y1 := rI_1 y
  have yl : listC (rwI y) = .ok (.list [.str y.1, .int y.2]) := rfl
  have L1ok : ∀ d ∈ ([.tuple [.str y.1, .int lo], .list [.str y.1, .int y.2], .tuple [.str y.1], .str y.1, .none, .tuple [.str "Stands", .int y.2], .tuple [.str y.1, .none], .tuple [.str y.1, .int y.2, .int 0], .tuple [.none, .int y.2], .tuple [.str y.1, .int (-1 - y.2)]] : List PyData), BadR rows d := by
    intro d hd
    simp only [List.mem_cons, List.not_mem_nil, or_false] at hd
    rcases hd with rfl | rfl | rfl | rfl | rfl | rfl | rfl | rfl | rfl | rfl
    · exact .inr ⟨(y.1, lo), rfl, hy, b1⟩
    · exact .inl rfl
    · exact .inl rfl
    · exact .inl rfl
    · exact .inl rfl
    · exact .inl (show decide (LbOk ("Stands" : Str)) = false by decide +kernel)
    · exact .inl rfl
    · exact .inl rfl
    · exact .inl rfl
    · exact .inr ⟨(y.1, -1 - y.2), rfl, hy, b2⟩
  have L1len : ([.tuple [.str y.1, .int lo], .list [.str y.1, .int y.2], .tuple [.str y.1], .str y.1, .none, .tuple [.str "Stands", .int y.2], .tuple [.str y.1, .none], .tuple [.str y.1, .int y.2, .int 0], .tuple [.none, .int y.2], .tuple [.str y.1, .int (-1 - y.2)]] : List PyData).length = 10 := rfl
  rw [run_of (ρ := [.dat P false, .dat V false, .dat m false, .no, .no, .no]) rfl rfl]
  unfold t__law_changed
  rw [seq_nx (ρ' := [.dat P false, .dat V false, .dat m false, .dat (rwI y) false, .no, .no]) (by simp [hv])]
  rw [seq_nx (ρ' := [.dat P false, .dat V false, .dat m false, .dat (rwI y) false, .dat (.list [.tuple [.str y.1, .int lo], .list [.str y.1, .int y.2], .tuple [.str y.1], .str y.1, .none]) true, .no]) (by
    generalize rwI y = Y at *
    generalize rows.map rwI = RR at *
    simp [y0, ha, hlo, yl])]
  rw [seq_nx (ρ' := [.dat P false, .dat V false, .dat m false, .dat (rwI y) false, .dat (.list [.tuple [.str y.1, .int lo], .list [.str y.1, .int y.2], .tuple [.str y.1], .str y.1, .none, .tuple [.str "Stands", .int y.2], .tuple [.str y.1, .none], .tuple [.str y.1, .int y.2, .int 0], .tuple [.none, .int y.2], .tuple [.str y.1, .int (-1 - y.2)]]) true, .no]) (by
    have ad : ∀ a b c d e a' b' c' d' e' : PyData, addD (.list [a, b, c, d, e]) (.list [a', b', c', d', e']) = .ok (.list [a, b, c, d, e, a', b', c', d', e']) := fun a b c d e a' b' c' d' e' => addL _ _ (show 10 ≤ sizeLine by decide)
    generalize rwI y = Y at *
    generalize rows.map rwI = RR at *
    simp [y0, y1, ad])]
  generalize ([.tuple [.str y.1, .int lo], .list [.str y.1, .int y.2], .tuple [.str y.1], .str y.1, .none, .tuple [.str "Stands", .int y.2], .tuple [.str y.1, .none], .tuple [.str y.1, .int y.2, .int 0], .tuple [.none, .int y.2], .tuple [.str y.1, .int (-1 - y.2)]] : List PyData) = L1 at *
  obtain ⟨ρ', g1, L2, y5, rfl, k1, k2⟩ := forL_inv PyData.str (fun done ρ => ∃ L y5, ρ = [.dat P false, .dat V false, .dat m false, .dat (rwI y) false, .dat (.list L) true, y5] ∧ (∀ d ∈ L, BadR rows d) ∧ L.length ≤ L1.length + 4 * done.length) (i := 5) (b := b__law_changed_0 Φ) ["stands", "falls", "unsettled"] (by
    rintro done x rest ρ e ⟨L, y5, rfl, k1, k2⟩
    have hx : LbOk x := by
      have : x ∈ (["stands", "falls", "unsettled"] : List Str) := by rw [e]; simp
      simpa [LbOk] using this
    have hdl : done.length ≤ 3 := by
      have := congrArg List.length e
      simp at this
      omega
    by_cases hne : x = y.1
    · refine ⟨_, .inl (?_ : b__law_changed_0 Φ [.dat P false, .dat V false, .dat m false, .dat (rwI y) false, .dat (.list L) true, .dat (.str x) false] = .nx [.dat P false, .dat V false, .dat m false, .dat (rwI y) false, .dat (.list L) true, .dat (.str x) false]), L, _, rfl, k1, by rw [List.length_append]; simp; omega⟩
      generalize rwI y = Y at *
      simp [b__law_changed_0, y0, hne]
    · refine ⟨_, .inl (?_ : b__law_changed_0 Φ [.dat P false, .dat V false, .dat m false, .dat (rwI y) false, .dat (.list L) true, .dat (.str x) false] = .nx [.dat P false, .dat V false, .dat m false, .dat (rwI y) false, .dat (.list (L ++ [.tuple [.str x, .int y.2], .tuple [.str x, .int 40], .tuple [.str x, .int 0], .tuple [.str x, .int 1]])) true, .dat (.str x) false]), _, _, rfl, ?_, by rw [List.length_append, List.length_append]; simp; omega⟩
      · have ad : addD (.list L) (.list [.tuple [.str x, .int y.2], .tuple [.str x, .int 40], .tuple [.str x, .int 0], .tuple [.str x, .int 1]]) = .ok (.list (L ++ [.tuple [.str x, .int y.2], .tuple [.str x, .int 40], .tuple [.str x, .int 0], .tuple [.str x, .int 1]])) := addL _ _ (by simp; omega)
        generalize rwI y = Y at *
        simp [b__law_changed_0, y0, y1, hne, ad]
      · intro d hd
        rcases List.mem_append.mp hd with hd | hd
        · exact k1 d hd
        · simp only [List.mem_cons, List.not_mem_nil, or_false] at hd
          rcases hd with rfl | rfl | rfl | rfl
          · exact .inr ⟨(x, y.2), rfl, hx, b3 x hx hne _⟩
          · exact .inr ⟨(x, 40), rfl, hx, b3 x hx hne _⟩
          · exact .inr ⟨(x, 0), rfl, hx, b3 x hx hne _⟩
          · exact .inr ⟨(x, 1), rfl, hx, b3 x hx hne _⟩) (ρ := [.dat P false, .dat V false, .dat m false, .dat (rwI y) false, .dat (.list L1) true, .no]) ⟨L1, .no, rfl, L1ok, by simp⟩
  rw [seq_nx (for_nx0 (by simp) g1)]
  have k2 : L2.length ≤ 22 := by
    have : (["stands", "falls", "unsettled"] : List Str).length = 3 := rfl
    omega
  by_cases hr : y.2 < 2
  · refine ⟨L2 ++ [.tuple [.str y.1, .bool (decide (y.2 = 1))]], ?_, ?_, by simp; omega⟩
    · have hn : L2.length < 16000000 := by omega
      generalize rwI y = Y at *
      simp [y0, y1, hr, hn]
    · intro d hd
      rcases List.mem_append.mp hd with hd | hd
      · exact k1 d hd
      · rw [List.mem_singleton.mp hd]
        exact .inl rfl
  · refine ⟨L2, ?_, k1, by omega⟩
    generalize rwI y = Y at *
    simp [y1, hr]
end Pv.K44


namespace Pv.K44
open PySem PySem.Spec L2
open PyProof.Rows hiding St

/-! ### accepted right -/
theorem v__law_changed (k n : Nat) {P : List NP} (hP : ∀ p ∈ P, OvP n p) {F : Fd} (L : Lab n P F) {m : Nat} (hm : m < n) (hlen : P.length ≤ 1000) : ∃ l : List PyData, Ev (k + 2) f__law_changed [pvD P, valI n (GF F), .int m] = .ok (.list l) ∧ (∀ d ∈ l, BadR ((ups P m).map (GF F)) d) ∧ l.length ≤ 100 := by
  obtain ⟨lo, a1, a2⟩ := u__law_lowest (Ev k) L hm hlen
  have a3 : Ev (k + 1) f__law_lowest _ = _ := (e__law_lowest k _).trans a1
  have hneg : rightB (((GF F m).1, -1 - (GF F m).2) : RI) ((ups P m).map (GF F)) = false := by
    have hp := GF_pos F m
    rcases GF_ok F m with h | h | h
    · rw [h, right_st, if_pos (by omega)]
    · rw [h, right_fa, if_pos (by omega)]
    · rw [h]
      exact un_false (.inl (by omega))
  obtain ⟨l, b1, b2, b3⟩ := u__law_changed (Ev (k + 1)) (GF F m) ((ups P m).map (GF F)) (pvD P) (valI n (GF F)) (.int m) lo (GF_ok F m) (val_at hm) (v__law_above k n P hP (GF F) m) a3 a2 hneg (fun x hx hne r => lab_other L hm x hx hne r)
  exact ⟨l, (e__law_changed (k + 1) _).trans b1, b2, b3⟩
theorem rowsL_set (n : Nat) (G : RowF) (m : Nat) (hm : m < n) (y : RI) : (rowsL n G).take m ++ rwI y :: (rowsL n G).drop (m + 1) = rowsL n fun x => if x = m then y else G x := by
  have e := List.set_eq_take_append_cons_drop (l := rowsL n G) (i := m) (a := rwI y)
  rw [if_pos (by rw [rowsL_len]; exact hm)] at e
  rw [← e]
  apply List.ext_getElem
  · rw [List.length_set, rowsL_len, rowsL_len]
  · intro i h1 h2
    simp only [rowsL, List.getElem_set, List.getElem_map, List.getElem_range]
    by_cases h : m = i
    · subst h; simp
    · have h' : ¬ i = m := fun e => h e.symm
      simp [h, h']
theorem v_replaced (k n : Nat) (hn : n ≤ 1000) {P : List NP} (hP : ∀ p ∈ P, OvP n p) {F : Fd} {m : Nat} (hm : m < n) {d : PyData} (h : BadR ((ups P m).map (GF F)) d) : Ev (k + 3) f_is_settled [.int n, pvD P, .list ((rowsL n (GF F)).take m ++ d :: (rowsL n (GF F)).drop (m + 1))] = .ok (.bool false) := by
  rcases h with h | ⟨y, rfl, h1, h2⟩
  · exact v_settled_bad k n P _ ⟨d, by simp, h⟩
  · rw [rowsL_set n _ m hm y]
    have := v_settled k n hn P hP (fun x => if x = m then y else GF F x) (by
      intro x hx
      show LbOk (if x = m then y else GF F x).1
      by_cases e : x = m
      · rw [if_pos e]; exact h1
      · rw [if_neg e]; exact GF_ok F x)
    have e : setB n P (fun x => if x = m then y else GF F x) = false := by
      unfold setB
      rw [List.all_eq_false]
      refine ⟨m, by simpa using hm, ?_⟩
      have e1 : (ups P m).map (fun x => if x = m then y else GF F x) = (ups P m).map (GF F) := List.map_congr_left fun u hu => if_neg (ups_lt hP hu).2
      rw [e1]
      show ¬ rightB (if m = m then y else GF F m) _ = true
      rw [if_pos rfl, h2]
      simp
    rw [e] at this
    exact this
theorem eqvAll_len : ∀ a b : List PyData, PyData.eqvAll a b = true → a.length = b.length
  | [], [], _ => rfl
  | [], _ :: _, h => by simp [PyData.eqvAll] at h
  | _ :: _, [], h => by simp [PyData.eqvAll] at h
  | x :: a, y :: b, h => by
    simp [PyData.eqvAll] at h
    simp [eqvAll_len a b h.2]
theorem nd_rows (n : Nat) (G : RowF) : noDics (rowsL n G) = true := noDics_all fun d hd => by
  obtain ⟨x, _, rfl⟩ := List.mem_map.mp hd
  rfl
theorem depth_all : ∀ {l : List PyData} {k : Nat}, (∀ d ∈ l, d.depth ≤ k) → PyData.depthAll l ≤ k
  | [], k, _ => by simp [PyData.depthAll]
  | d :: l, k, h => by
    have := h d List.mem_cons_self
    have ih := depth_all (l := l) fun x hx => h x (List.mem_cons_of_mem _ hx)
    simp [PyData.depthAll]
    omega
theorem dp_val (n : Nat) (G : RowF) : (valI n G).depth ≤ 5 := by
  have := depth_all (l := rowsL n G) (k := 3) (fun d hd => by
    obtain ⟨x, _, rfl⟩ := List.mem_map.mp hd
    simp [rwI, PyData.depth, PyData.depthAll])
  unfold valI
  simp [PyData.depth]
  omega
theorem eq_val (n : Nat) (G : RowF) (d : PyData) (h : noDic d = true) : eqD d (valI n G) = .ok (.bool (PyData.eqv d (valI n G))) := by
  have h1 := dp_val n G
  have h2 : noDic (valI n G) = true := by
    have := nd_rows n G
    unfold valI
    simp [this]
  exact if_pos (by simp [shal, h, h2]; omega)
theorem u_acc_row (Φ : Ph) (n : Nat) (s1 s3 s4 s9 : Sl) (s2 s7 : Sl) (V : List PyData) (m : Nat) (d : PyData) (P : PyData) (hV : V.length ≤ 1000) (h : Φ f_is_settled [.int n, P, .list (V.take m ++ d :: V.drop (m + 1))] = .ok (.bool false)) :
    b__law_accepted_right_1 Φ [.dat (.int n) false, .dat P false, s2, s3, s4, .dat (.list V) false, .dat (natD m) false, s7, .dat d false, s9] = .nx [.dat (.int n) false, .dat P false, s2, s3, s4, .dat (.list V) false, .dat (natD m) false, s7, .dat d false, s9] := by
  have z0 : sizeLine = 16777216 := rfl
  have c1 := cutD_to V m
  have c2 := cutD_from V (m + 1)
  have l1 : (V.take m).length ≤ 1000 := by rw [List.length_take]; omega
  have l2 : (V.drop (m + 1)).length ≤ 1000 := by rw [List.length_drop]; omega
  rw [show ((m + 1 : Nat) : Int) = (m : Int) + 1 by omega] at c2
  generalize V.take m = A1 at *
  generalize V.drop (m + 1) = A2 at *
  have a1 : addD (.list A1) (.list [d]) = .ok (.list (A1 ++ [d])) := addL _ _ (by simp; omega)
  have a2 : addD (.list (A1 ++ [d])) (.list A2) = .ok (.list (A1 ++ d :: A2)) := by rw [addL _ _ (by simp; omega)]; simp
  have hb : isntD (.bool false) (.bool false) = .ok (.bool false) := rfl
  generalize A1 ++ d :: A2 = B at *
  unfold natD
  simp [b__law_accepted_right_1, c1, c2, a1, a2, h, hb]
theorem u_acc_wrong (Φ : Ph) (n : Nat) (s3 s4 s5 s6 s7 s8 : Sl) (P V x : PyData) (b e : Bool) (h1 : Φ f_is_settled [.int n, P, x] = .ok (.bool b)) (h2 : eqD x V = .ok (.bool e)) (h3 : (e && tyD x == "list") = b) (h4 : Φ f__law_equal [.bool b, .bool b] = .ok (.bool true)) :
    b__law_accepted_right_3 Φ [.dat (.int n) false, .dat P false, .dat V false, s3, s4, s5, s6, s7, s8, .dat x false] = .nx [.dat (.int n) false, .dat P false, .dat V false, s3, s4, s5, s6, s7, s8, .dat x false] := by
  cases e with
  | false =>
    have hb : b = false := by simpa using h3.symm
    subst hb
    simp [b__law_accepted_right_3, h1, h2, h4]
  | true =>
    have hb : (tyD x == "list") = b := by simpa using h3
    simp [b__law_accepted_right_3, h1, h2, hb, h4]
end Pv.K44


namespace Pv.K44
open PySem PySem.Spec L2
open PyProof.Rows hiding St

/-! ### accepted right, whole -/
theorem v__law_accepted_right (k n : Nat) (hn : n ≤ 16) {P : List NP} (hP : ∀ p ∈ P, OvP n p) (hl : P.length ≤ 1000) {F : Fd} (RU : Rules n P F) (dr : PyData) (x0 x1 x2 : Int) (d0 : ixD dr (.int 0) = .ok (.int x0)) (d1 : ixD dr (.int 1) = .ok (.int x1)) (d2 : ixD dr (.int 2) = .ok (.int x2)) : Ev (k + 4) f__law_accepted_right [.int n, pvD P, valI n (GF F), dr] = .ok (.bool true) := by
  refine (e__law_accepted_right (k + 3) _).trans ?_
  have nat_of : ∀ (x : Int) (j : Nat), 0 < j → ∃ a : Nat, a < j ∧ modD (.int x) (.int j) = .ok (.int a) := by
    intro x j hj
    have h0 : 0 ≤ x % (j : Int) := Int.emod_nonneg _ (by omega)
    have h1 : x % (j : Int) < j := Int.emod_lt_of_pos _ (by omega)
    obtain ⟨a, e⟩ := Int.eq_ofNat_of_zero_le h0
    exact ⟨a, by omega, by rw [modD_int x (by omega), e]⟩
  obtain ⟨f, hf, m1⟩ := nat_of x1 50 (by decide)
  obtain ⟨mo, hmo, m2⟩ := nat_of x2 9 (by decide)
  obtain ⟨mo2, hmo2, m3⟩ := nat_of x2 2 (by decide)
  have m1 : modD (.int x1) (.int 50) = .ok (.int f) := m1
  have m2 : modD (.int x2) (.int 9) = .ok (.int mo) := m2
  have m3 : modD (.int x2) (.int 2) = .ok (.int mo2) := m3
  have L1 := lab_rai (f := 1) (mo := mo2) RU (by decide)
  have a1 : ∀ f mo : Nat, f ≤ 1000 → Ev (k + 3) f__law_raised [valI n (GF F), .int f, .int mo] = .ok (valI n (GF (raiF f mo F))) := fun f mo h => v__law_raised (k + 2) n (by omega) F f mo h
  have a2 : ∀ f mo : Nat, 1 ≤ f → Ev (k + 3) f_is_settled [.int n, pvD P, valI n (GF (raiF f mo F))] = .ok (.bool true) := fun f mo h => by
    have := v_settled k n (by omega) P hP (GF (raiF f mo F)) (fun m _ => GF_ok _ m)
    rwa [lab_set (lab_rai RU h)] at this
  have a3 : ∀ m, m < n → ∃ l : List PyData, Ev (k + 3) f__law_changed [pvD P, valI n (GF (raiF 1 mo2 F)), .int m] = .ok (.list l) ∧ (∀ d ∈ l, BadR ((ups P m).map (GF (raiF 1 mo2 F))) d) ∧ l.length ≤ 100 := fun m hm => v__law_changed (k + 1) n hP L1 hm hl
  have a4 : ∀ m, m < n → ∀ d, BadR ((ups P m).map (GF (raiF 1 mo2 F))) d → Ev (k + 3) f_is_settled [.int n, pvD P, .list ((rowsL n (GF (raiF 1 mo2 F))).take m ++ d :: (rowsL n (GF (raiF 1 mo2 F))).drop (m + 1))] = .ok (.bool false) := fun m hm d h => v_replaced k n (by omega) hP hm h
  have a5 : ∀ x : PyData, (∀ ds, x ≠ .list ds) → Ev (k + 3) f_is_settled [.int n, pvD P, x] = .ok (.bool false) := fun x h => v_settled_no (k + 2) n P h
  have a6 : ∀ V : List PyData, V.length ≠ n → Ev (k + 3) f_is_settled [.int n, pvD P, .list V] = .ok (.bool false) := fun V h => v_settled_len (k + 2) n P V h
  have a7 : Ev (k + 3) f_is_settled [.int n, pvD P, valI n (GF F)] = .ok (.bool (setB n P (GF F))) := v_settled k n (by omega) P hP (GF F) (fun m _ => GF_ok F m)
  have qb : ∀ b : Bool, Ev (k + 3) f__law_equal [.bool b, .bool b] = .ok (.bool true) := fun b => v_equal 1 (k + 2) _ rfl
  generalize Ev (k + 3) = Φ at *
  have hlen := rowsL_len n (GF F)
  have hlenR := rowsL_len n (GF (raiF 1 mo2 F))
  have z0 : sizeLine = 16777216 := rfl
  have eV : valI n (GF F) = .list (rowsL n (GF F)) := rfl
  have eR : valI n (GF (raiF 1 mo2 F)) = .list (rowsL n (GF (raiF 1 mo2 F))) := rfl
  -- the wrong ones
  have lenE : ∀ V : List PyData, V.length ≠ n → eqD (.list V) (valI n (GF F)) = .ok (.bool false) ∨ noDic (.list V) = false := by
    intro V h
    cases hnd : noDic (.list V) with
    | false => exact .inr rfl
    | true =>
      left
      rw [eq_val n (GF F) _ hnd]
      have e : PyData.eqv (.list V) (valI n (GF F)) = false := by
        show PyData.eqvAll V (rowsL n (GF F)) = false
        cases he : PyData.eqvAll V (rowsL n (GF F)) with
        | false => rfl
        | true =>
          have := eqvAll_len _ _ he
          omega
      rw [e]
  have wr : ∀ x ∈ ([.tuple (rowsL n (GF F)), .list (rowsL n (GF F) ++ [.tuple [.str "stands", .int 1]]), .list (rowsL n (GF F) ++ (rowsL n (GF F)).take 1), .none, .tuple [valI n (GF F)]] : List PyData), ∃ b e : Bool, Φ f_is_settled [.int n, pvD P, x] = .ok (.bool b) ∧ eqD x (valI n (GF F)) = .ok (.bool e) ∧ (e && tyD x == "list") = b := by
    have nd := nd_rows n (GF F)
    have ndV : noDic (valI n (GF F)) = true := by
      unfold valI
      simp [nd]
    intro x hx
    simp only [List.mem_cons, List.not_mem_nil, or_false] at hx
    rcases hx with rfl | rfl | rfl | rfl | rfl
    · refine ⟨false, false, a5 _ (by intro ds h; cases h), ?_, rfl⟩
      rw [eq_val n (GF F) _ (by simp [nd])]
      rfl
    · have hl : (rowsL n (GF F) ++ [PyData.tuple [.str "stands", .int 1]]).length ≠ n := by simp [hlen]
      refine ⟨false, false, a6 _ hl, ?_, rfl⟩
      rcases lenE _ hl with h | h
      · exact h
      · rw [show noDic (.list (rowsL n (GF F) ++ [.tuple [.str "stands", .int 1]])) = true from by
          show noDics (rowsL n (GF F) ++ [.tuple [.str "stands", .int 1]]) = true
          refine noDics_all fun d hd => ?_
          rcases List.mem_append.mp hd with hd | hd
          · obtain ⟨x, _, rfl⟩ := List.mem_map.mp hd
            rfl
          · rw [List.mem_singleton.mp hd]; rfl] at h
        cases h
    · by_cases h0 : n = 0
      · subst h0
        have e : rowsL 0 (GF F) = [] := rfl
        have e2 : ([] ++ ([] : List PyData).take 1) = [] := rfl
        rw [e, e2]
        refine ⟨true, true, ?_, rfl, rfl⟩
        have : setB 0 P (GF F) = true := rfl
        rw [this] at a7
        exact a7
      · have hl : (rowsL n (GF F) ++ (rowsL n (GF F)).take 1).length ≠ n := by
          rw [List.length_append, List.length_take, hlen]
          omega
        refine ⟨false, false, a6 _ hl, ?_, rfl⟩
        rcases lenE _ hl with h | h
        · exact h
        · rw [show noDic (.list (rowsL n (GF F) ++ (rowsL n (GF F)).take 1)) = true from by
            show noDics (rowsL n (GF F) ++ (rowsL n (GF F)).take 1) = true
            refine noDics_all fun d hd => ?_
            rcases List.mem_append.mp hd with hd | hd
            · obtain ⟨x, _, rfl⟩ := List.mem_map.mp hd
              rfl
            · obtain ⟨x, _, rfl⟩ := List.mem_map.mp (List.mem_of_mem_take hd)
              rfl] at h
          cases h
    · refine ⟨false, false, a5 _ (by intro ds h; cases h), ?_, rfl⟩
      rw [eq_val n (GF F) _ rfl]
      rfl
    · refine ⟨false, false, a5 _ (by intro ds h; cases h), ?_, rfl⟩
      rw [eq_val n (GF F) _ (by simp [ndV])]
      rfl
  have tb : isntD (.bool true) (.bool true) = .ok (.bool false) := rfl
  rw [run_of (ρ := [.dat (.int n) false, .dat (pvD P) false, .dat (valI n (GF F)) false, .dat dr false, .no, .no, .no, .no, .no, .no]) rfl rfl]
  unfold t__law_accepted_right
  obtain ⟨y4, g1⟩ := forL_same (fun x : Nat => .int x) (fun y => [.dat (.int n) false, .dat (pvD P) false, .dat (valI n (GF F)) false, .dat dr false, y, .no, .no, .no, .no, .no]) (i := 4) (b := b__law_accepted_right_0 Φ) [2, 1 + f] (fun x y => rfl) (by
    intro g hg
    have hg : 1 ≤ g ∧ g ≤ 1000 := by
      simp at hg
      omega
    have b1 := a1 g mo hg.2
    have b2 := a2 g mo hg.1
    generalize valI n (GF (raiF g mo F)) = V2 at *
    generalize valI n (GF F) = V at *
    generalize pvD P = PD at *
    simp [b__law_accepted_right_0, d2, m2, b1, b2, tb]) .no
  have g1 : forL (.one 4) (b__law_accepted_right_0 Φ) [.int 2, .int (1 + f : Nat)] [.dat (.int n) false, .dat (pvD P) false, .dat (valI n (GF F)) false, .dat dr false, .no, .no, .no, .no, .no, .no] = .nx [.dat (.int n) false, .dat (pvD P) false, .dat (valI n (GF F)) false, .dat dr false, y4, .no, .no, .no, .no, .no] := g1
  rw [seq_nx (for_nx0 (by
    generalize valI n (GF F) = V at *
    generalize pvD P = PD at *
    simp [d1, m1]) g1)]
  have b1 := a1 1 mo2 (by decide)
  have b2 := a2 1 mo2 (by decide)
  rw [seq_nx (ρ' := [.dat (.int n) false, .dat (pvD P) false, .dat (valI n (GF F)) false, .dat dr false, y4, .dat (valI n (GF (raiF 1 mo2 F))) false, .no, .no, .no, .no]) (by
    have b1 : Φ f__law_raised [valI n (GF F), .int 1, .int mo2] = _ := b1
    generalize valI n (GF (raiF 1 mo2 F)) = V2 at *
    generalize valI n (GF F) = V at *
    generalize pvD P = PD at *
    simp [d2, m3, b1])]
  rw [seq_nx (ρ' := [.dat (.int n) false, .dat (pvD P) false, .dat (valI n (GF F)) false, .dat dr false, y4, .dat (valI n (GF (raiF 1 mo2 F))) false, .no, .no, .no, .no]) (by
    generalize valI n (GF (raiF 1 mo2 F)) = V2 at *
    generalize valI n (GF F) = V at *
    generalize pvD P = PD at *
    simp [b2, tb])]
  obtain ⟨ρ', g2, y6, y7, y8, rfl⟩ := forL_inv natD (fun done ρ => ∃ y6 y7 y8, ρ = [.dat (.int n) false, .dat (pvD P) false, .dat (valI n (GF F)) false, .dat dr false, y4, .dat (valI n (GF (raiF 1 mo2 F))) false, y6, y7, y8, .no]) (i := 6) (b := b__law_accepted_right_2 Φ) (List.range n) (by
    rintro done m rest ρ e ⟨y6, y7, y8, rfl⟩
    obtain ⟨hj, he⟩ := range_at e
    have hm : m < n := by omega
    obtain ⟨l, c1, c2, c3⟩ := a3 m hm
    obtain ⟨q, hq, m5⟩ := nat_of x0 n (by omega)
    have key : ∀ (l' : List PyData) (o : Bool), (∀ d ∈ l', d ∈ l) → ∃ ρ', sSeq (disow [7] (sFor (cItE (cVar 7)) (.one 8) (b__law_accepted_right_1 Φ))) (sNx) [.dat (.int n) false, .dat (pvD P) false, .dat (valI n (GF F)) false, .dat dr false, y4, .dat (valI n (GF (raiF 1 mo2 F))) false, .dat (natD m) false, .dat (.list l') o, y8, .no] = .nx ρ' ∧ ∃ y7 y8, ρ' = [.dat (.int n) false, .dat (pvD P) false, .dat (valI n (GF F)) false, .dat dr false, y4, .dat (valI n (GF (raiF 1 mo2 F))) false, .dat (natD m) false, y7, y8, .no] := by
      intro l' o hl'
      obtain ⟨y, g⟩ := forL_same (fun d : PyData => d) (fun y => [.dat (.int n) false, .dat (pvD P) false, .dat (valI n (GF F)) false, .dat dr false, y4, .dat (valI n (GF (raiF 1 mo2 F))) false, .dat (natD m) false, .dat (.list l') false, y, .no]) (i := 8) (b := b__law_accepted_right_1 Φ) l' (fun x y => rfl) (by
        intro d hd
        exact u_acc_row Φ n (.dat (pvD P) false) (.dat dr false) y4 .no (.dat (valI n (GF F)) false) (.dat (.list l') false) (rowsL n (GF (raiF 1 mo2 F))) m d (pvD P) (by omega) (a4 m hm d (c2 d (hl' d hd)))) y8
      rw [List.map_id'] at g
      have s : disow [7] (sFor (cItE (cVar 7)) (.one 8) (b__law_accepted_right_1 Φ)) [.dat (.int n) false, .dat (pvD P) false, .dat (valI n (GF F)) false, .dat dr false, y4, .dat (valI n (GF (raiF 1 mo2 F))) false, .dat (natD m) false, .dat (.list l') o, y8, .no] = .nx [.dat (.int n) false, .dat (pvD P) false, .dat (valI n (GF F)) false, .dat dr false, y4, .dat (valI n (GF (raiF 1 mo2 F))) false, .dat (natD m) false, .dat (.list l') false, y, .no] := by
        have e : disL [7] [.dat (.int n) false, .dat (pvD P) false, .dat (valI n (GF F)) false, .dat dr false, y4, .dat (valI n (GF (raiF 1 mo2 F))) false, .dat (natD m) false, .dat (.list l') o, y8, .no] = [.dat (.int n) false, .dat (pvD P) false, .dat (valI n (GF F)) false, .dat dr false, y4, .dat (valI n (GF (raiF 1 mo2 F))) false, .dat (natD m) false, .dat (.list l') false, y8, .no] := by cases o <;> rfl
        rw [disow_ap, e]
        exact for_nx (by simp) g
      exact ⟨_, by rw [seq_nx s]; rfl, _, _, rfl⟩
    have st : ∃ (l' : List PyData) (o : Bool), (∀ d ∈ l', d ∈ l) ∧ b__law_accepted_right_2 Φ [.dat (.int n) false, .dat (pvD P) false, .dat (valI n (GF F)) false, .dat dr false, y4, .dat (valI n (GF (raiF 1 mo2 F))) false, .dat (natD m) false, y7, y8, .no] = sSeq (disow [7] (sFor (cItE (cVar 7)) (.one 8) (b__law_accepted_right_1 Φ))) (sNx) [.dat (.int n) false, .dat (pvD P) false, .dat (valI n (GF F)) false, .dat dr false, y4, .dat (valI n (GF (raiF 1 mo2 F))) false, .dat (natD m) false, .dat (.list l') o, y8, .no] := by
      unfold b__law_accepted_right_2
      rw [seq_nx (ρ' := [.dat (.int n) false, .dat (pvD P) false, .dat (valI n (GF F)) false, .dat dr false, y4, .dat (valI n (GF (raiF 1 mo2 F))) false, .dat (natD m) false, .dat (.list l) false, y8, .no]) (by
        generalize valI n (GF (raiF 1 mo2 F)) = V2 at *
        generalize valI n (GF F) = V at *
        generalize pvD P = PD at *
        simp [natD, c1])]
      by_cases hq2 : (m : Int) = q
      · refine ⟨l, false, fun d hd => hd, ?_⟩
        rw [seq_nx (ρ' := [.dat (.int n) false, .dat (pvD P) false, .dat (valI n (GF F)) false, .dat dr false, y4, .dat (valI n (GF (raiF 1 mo2 F))) false, .dat (natD m) false, .dat (.list l) false, y8, .no]) (by
          generalize valI n (GF (raiF 1 mo2 F)) = V2 at *
          generalize valI n (GF F) = V at *
          generalize pvD P = PD at *
          simp [natD, d0, m5, hq2])]
      · refine ⟨l.take 1, true, fun d hd => List.mem_of_mem_take hd, ?_⟩
        have cc := cutD_to l 1
        have cc : cutD l none (some 1) = l.take 1 := cc
        rw [seq_nx (ρ' := [.dat (.int n) false, .dat (pvD P) false, .dat (valI n (GF F)) false, .dat dr false, y4, .dat (valI n (GF (raiF 1 mo2 F))) false, .dat (natD m) false, .dat (.list (l.take 1)) true, y8, .no]) (by
          generalize valI n (GF (raiF 1 mo2 F)) = V2 at *
          generalize valI n (GF F) = V at *
          generalize pvD P = PD at *
          generalize l.take 1 = l1 at *
          simp [natD, d0, m5, hq2, cc])]
    obtain ⟨l', o, hl', e1⟩ := st
    obtain ⟨ρ', e2, y7', y8', rfl⟩ := key l' o hl'
    exact ⟨_, .inl (e1.trans e2), _, _, _, rfl⟩) (ρ := [.dat (.int n) false, .dat (pvD P) false, .dat (valI n (GF F)) false, .dat dr false, y4, .dat (valI n (GF (raiF 1 mo2 F))) false, .no, .no, .no, .no]) ⟨.no, .no, .no, rfl⟩
  have hr := cRange1_nat (n := n) (a := cVarB 0) (ρ := [.dat (.int n) false, .dat (pvD P) false, .dat (valI n (GF F)) false, .dat dr false, y4, .dat (valI n (GF (raiF 1 mo2 F))) false, .no, .no, .no, .no]) (by simp) (by omega)
  rw [seq_nx (for_nx0 hr g2)]
  obtain ⟨y9, g3⟩ := forL_same (fun x : PyData => x) (fun y => [.dat (.int n) false, .dat (pvD P) false, .dat (valI n (GF F)) false, .dat dr false, y4, .dat (valI n (GF (raiF 1 mo2 F))) false, y6, y7, y8, y]) (i := 9) (b := b__law_accepted_right_3 Φ) [.tuple (rowsL n (GF F)), .list (rowsL n (GF F) ++ [.tuple [.str "stands", .int 1]]), .list (rowsL n (GF F) ++ (rowsL n (GF F)).take 1), .none, .tuple [valI n (GF F)]] (fun x y => rfl) (by
    intro x hx
    obtain ⟨b, e, w1, w2, w3⟩ := wr x hx
    exact u_acc_wrong Φ n _ _ _ _ _ _ _ _ x b e w1 w2 w3 (qb b)) .no
  rw [List.map_id'] at g3
  have hV : (rowsL n (GF F)).length ≤ 1000 := by omega
  have cc1 := cutD_to (rowsL n (GF F)) 1
  have cc1 : cutD (rowsL n (GF F)) none (some 1) = (rowsL n (GF F)).take 1 := cc1
  have cc2 := cutD_from (rowsL n (GF F)) 1
  have cc2 : cutD (rowsL n (GF F)) (some 1) none = (rowsL n (GF F)).drop 1 := cc2
  have ad1 : addD (.list (rowsL n (GF F))) (.list [.tuple [.str "stands", .int 1]]) = .ok (.list (rowsL n (GF F) ++ [.tuple [.str "stands", .int 1]])) := addL _ _ (by simp; omega)
  have ad2 : addD (.list (rowsL n (GF F))) (.list ((rowsL n (GF F)).take 1)) = .ok (.list (rowsL n (GF F) ++ (rowsL n (GF F)).take 1)) := addL _ _ (by rw [List.length_take]; omega)
  have s5 : disow [2] (sFor (cItE (cLst [c1 tupleD (cVarB 2), c2 addD (cVarB 2) (cLst [cTup [cK (.str "stands"), cK (.int 1)]]), c2 addD (cVarB 2) (cSl (cVarB 2) none (some (cK (.int 1)))), cK .none, cTup [cVar 2]])) (.one 9) (b__law_accepted_right_3 Φ)) [.dat (.int n) false, .dat (pvD P) false, .dat (valI n (GF F)) false, .dat dr false, y4, .dat (valI n (GF (raiF 1 mo2 F))) false, y6, y7, y8, .no] = .nx [.dat (.int n) false, .dat (pvD P) false, .dat (valI n (GF F)) false, .dat dr false, y4, .dat (valI n (GF (raiF 1 mo2 F))) false, y6, y7, y8, y9] := by
    have e : disL [2] [.dat (.int n) false, .dat (pvD P) false, .dat (valI n (GF F)) false, .dat dr false, y4, .dat (valI n (GF (raiF 1 mo2 F))) false, y6, y7, y8, .no] = [.dat (.int n) false, .dat (pvD P) false, .dat (valI n (GF F)) false, .dat dr false, y4, .dat (valI n (GF (raiF 1 mo2 F))) false, y6, y7, y8, .no] := rfl
    rw [disow_ap, e]
    refine for_nx ?_ g3
    rw [eV]
    generalize valI n (GF (raiF 1 mo2 F)) = V2 at *
    generalize rowsL n (GF F) = V at *
    generalize pvD P = PD at *
    simp [cc1, ad1, ad2]
  rw [seq_nx s5]
  have fin : n = 0 ∨ Φ f_is_settled [.int n, pvD P, .list ((rowsL n (GF F)).drop 1)] = .ok (.bool false) := by
    by_cases h0 : n = 0
    · exact .inl h0
    · exact .inr (a6 _ (by rw [List.length_drop, hlen]; omega))
  have hb : isD (.bool false) (.bool false) = .ok (.bool true) := rfl
  rw [eV]
  rcases fin with h0 | h0
  · have h0' : (n : Int) = 0 := by omega
    generalize valI n (GF (raiF 1 mo2 F)) = V2 at *
    generalize rowsL n (GF F) = V at *
    generalize pvD P = PD at *
    simp [h0']
  · generalize valI n (GF (raiF 1 mo2 F)) = V2 at *
    generalize (rowsL n (GF F)).drop 1 = V1 at *
    generalize rowsL n (GF F) = V at *
    generalize pvD P = PD at *
    by_cases hz : (n : Int) = 0
    · simp [hz]
    · simp [hz, cc2, h0, hb]
end Pv.K44


namespace Pv.K44
open PySem PySem.Spec L2
open PyProof.Rows hiding St

/-! ### walks, distances -/
section
variable (P : List NP) (U : List Nat) (t : Nat)
/-- a walk of so many edges to t -/
def Wk : Nat → Nat → Prop
  | 0, v => v = t
  | k + 1, v => v ∈ U ∧ ∃ l, (v, l) ∈ P ∧ Wk k l
def stepB (f : Nat → Option Nat) (r v : Nat) : Bool := decide (v ∈ U) && P.any fun p => decide (p.1 = v) && decide (f p.2 = some r)
def fD : Nat → Nat → Option Nat
  | 0, v => if v = t then some 0 else none
  | r + 1, v => match fD r v with
    | some k => some k
    | none => if stepB P U (fD r) r v = true then some (r + 1) else none
def far (v : Nat) : Option Nat := fD P U t 16 v
end
variable {P : List NP} {U : List Nat} {t : Nat}
theorem stepB_iff {f : Nat → Option Nat} {r v : Nat} : stepB P U f r v = true ↔ v ∈ U ∧ ∃ l, (v, l) ∈ P ∧ f l = some r := by
  unfold stepB
  rw [Bool.and_eq_true, decide_eq_true_iff, List.any_eq_true]
  constructor
  · rintro ⟨h1, p, hp, h2⟩
    rw [Bool.and_eq_true, decide_eq_true_iff, decide_eq_true_iff] at h2
    obtain ⟨rfl, h3⟩ := h2
    exact ⟨h1, p.2, hp, h3⟩
  · rintro ⟨h1, l, hp, h2⟩
    exact ⟨h1, (v, l), hp, by simp [h2]⟩
theorem least_of {p : Nat → Prop} {k : Nat} (h : p k) : ∃ j, j ≤ k ∧ p j ∧ ∀ i, i < j → ¬ p i := by
  induction k using Nat.strongRecOn with
  | _ k ih =>
    by_cases hx : ∃ i, i < k ∧ p i
    · obtain ⟨i, h1, h2⟩ := hx
      obtain ⟨j, a, b, c⟩ := ih i h1 h2
      exact ⟨j, by omega, b, c⟩
    · exact ⟨k, Nat.le_refl k, h, fun i hi hp => hx ⟨i, hi, hp⟩⟩
theorem fD_iff : ∀ (r v k : Nat), fD P U t r v = some k ↔ k ≤ r ∧ Wk P U t k v ∧ ∀ j, j < k → ¬ Wk P U t j v
  | 0, v, k => by
    show (if v = t then some 0 else none) = some k ↔ _
    constructor
    · intro h
      split at h
      · injection h with h
        subst h
        exact ⟨Nat.le_refl 0, by assumption, fun j hj => absurd hj (by omega)⟩
      · cases h
    · rintro ⟨h1, h2, _⟩
      have : k = 0 := by omega
      subst this
      have h2 : v = t := h2
      rw [if_pos h2]
  | r + 1, v, k => by
    show (match fD P U t r v with | some k => some k | none => if stepB P U (fD P U t r) r v = true then some (r + 1) else none) = some k ↔ _
    cases hf : fD P U t r v with
    | some j =>
      show some j = some k ↔ _
      obtain ⟨h1, h2, h3⟩ := (fD_iff r v j).mp hf
      constructor
      · intro h
        injection h with h
        subst h
        exact ⟨by omega, h2, h3⟩
      · rintro ⟨g1, g2, g3⟩
        have : j = k := by
          rcases Nat.lt_trichotomy j k with h | h | h
          · exact absurd h2 (g3 j h)
          · exact h
          · exact absurd g2 (h3 k h)
        rw [this]
    | none =>
      have no : ∀ j, j ≤ r → ¬ Wk P U t j v := by
        intro j hj hw
        obtain ⟨i, a, b, c⟩ := least_of (p := fun j => Wk P U t j v) hw
        have := (fD_iff r v i).mpr ⟨by omega, b, c⟩
        rw [hf] at this
        cases this
      show (if stepB P U (fD P U t r) r v = true then some (r + 1) else none) = some k ↔ _
      constructor
      · intro h
        split at h
        · rename_i hs
          injection h with h
          subst h
          obtain ⟨h1, l, h2, h3⟩ := stepB_iff.mp hs
          exact ⟨Nat.le_refl _, ⟨h1, l, h2, ((fD_iff r l r).mp h3).2.1⟩, fun j hj => no j (by omega)⟩
        · cases h
      · rintro ⟨g1, g2, g3⟩
        have hk : k = r + 1 := by
          by_cases h : k ≤ r
          · exact absurd g2 (no k h)
          · omega
        subst hk
        obtain ⟨h1, l, h2, h3⟩ := g2
        have hl : fD P U t r l = some r := (fD_iff r l r).mpr ⟨Nat.le_refl r, h3, fun j hj hw => g3 (j + 1) (by omega) ⟨h1, l, h2, hw⟩⟩
        rw [if_pos (stepB_iff.mpr ⟨h1, l, h2, hl⟩)]
theorem Wk_in (ht : t ∈ U) : ∀ {k v : Nat}, Wk P U t k v → v ∈ U
  | 0, v, h => by
    have h : v = t := h
    rw [h]; exact ht
  | k + 1, v, h => h.1
/-- enough rounds -/
theorem fD_all {n : Nat} (hn : n ≤ 16) (hU : ∀ u ∈ U, u < n) (ht : t ∈ U) {k v : Nat} (h : Wk P U t k v) : ∃ j, j ≤ k ∧ far P U t v = some j := by
  obtain ⟨j, h1, h2, h3⟩ := least_of (p := fun j => Wk P U t j v) h
  refine ⟨j, h1, ?_⟩
  unfold far
  rw [fD_iff]
  refine ⟨?_, h2, h3⟩
  -- no distance beyond 16
  have key := stab (n := n) (fun r m => (fD P U t r m).isSome) (by
    intro r m hm
    obtain ⟨y, hy⟩ := Option.isSome_iff_exists.mp hm
    obtain ⟨a, b, c⟩ := (fD_iff r m y).mp hy
    show (fD P U t (r + 1) m).isSome = true
    rw [(fD_iff (r + 1) m y).mpr ⟨by omega, b, c⟩]; rfl) (by
    intro r m hm
    obtain ⟨y, hy⟩ := Option.isSome_iff_exists.mp hm
    exact hU m (Wk_in ht ((fD_iff r m y).mp hy).2.1)) (by
    intro r hs m
    show (fD P U t (r + 2) m).isSome = (fD P U t (r + 1) m).isSome
    cases hf : fD P U t (r + 1) m with
    | some y =>
      obtain ⟨a, b, c⟩ := (fD_iff (r + 1) m y).mp hf
      rw [(fD_iff (r + 2) m y).mpr ⟨by omega, b, c⟩]
    | none =>
      cases hg : fD P U t (r + 2) m with
      | none => rfl
      | some y =>
        exfalso
        obtain ⟨a, b, c⟩ := (fD_iff (r + 2) m y).mp hg
        have hy : y = r + 2 := by
          by_cases h : y ≤ r + 1
          · have := (fD_iff (r + 1) m y).mpr ⟨h, b, c⟩
            rw [hf] at this
            cases this
          · omega
        subst hy
        obtain ⟨g1, l, g2, g3⟩ := b
        have hl : fD P U t (r + 1) l = some (r + 1) := (fD_iff (r + 1) l (r + 1)).mpr ⟨Nat.le_refl _, g3, fun j hj hw => c (j + 1) (by omega) ⟨g1, l, g2, hw⟩⟩
        have hx : (fD P U t (r + 1) l).isSome = (fD P U t r l).isSome := hs l
        rw [hl] at hx
        obtain ⟨z, hz⟩ := Option.isSome_iff_exists.mp hx.symm
        obtain ⟨a1, b1, c1⟩ := (fD_iff r l z).mp hz
        have := (fD_iff (r + 1) l z).mpr ⟨by omega, b1, c1⟩
        rw [hl] at this
        injection this with this
        omega)
  have all : ∀ d m, (fD P U t (n + d) m).isSome = (fD P U t n m).isSome := by
    intro d
    induction d with
    | zero => intro m; rfl
    | succ d ih =>
      intro m
      -- two equal rounds stay equal
      have st : ∀ d, (∀ m, (fD P U t (n + d + 1) m).isSome = (fD P U t (n + d) m).isSome) := by
        intro d
        induction d with
        | zero => exact key
        | succ d ih2 =>
          intro m
          cases hg : fD P U t (n + (d + 1) + 1) m with
          | none =>
            cases hf : fD P U t (n + (d + 1)) m with
            | none => rfl
            | some y =>
              obtain ⟨a, b, c⟩ := (fD_iff _ m y).mp hf
              have := (fD_iff (n + (d + 1) + 1) m y).mpr ⟨by omega, b, c⟩
              rw [hg] at this
              cases this
          | some y =>
            obtain ⟨a, b, c⟩ := (fD_iff _ m y).mp hg
            by_cases hy : y ≤ n + (d + 1)
            · rw [(fD_iff (n + (d + 1)) m y).mpr ⟨hy, b, c⟩]
            · exfalso
              have hy : y = n + d + 2 := by omega
              subst hy
              obtain ⟨g1, l, g2, g3⟩ := b
              have hl : fD P U t (n + d + 1) l = some (n + d + 1) := (fD_iff _ l _).mpr ⟨Nat.le_refl _, g3, fun j hj hw => c (j + 1) (by omega) ⟨g1, l, g2, hw⟩⟩
              have hx := ih2 l
              rw [hl] at hx
              obtain ⟨z, hz⟩ := Option.isSome_iff_exists.mp hx.symm
              obtain ⟨a1, b1, c1⟩ := (fD_iff _ l z).mp hz
              have := (fD_iff (n + d + 1) l z).mpr ⟨by omega, b1, c1⟩
              rw [hl] at this
              injection this with this
              omega
      exact (st d m).trans (ih m)
  have hjj : (fD P U t j v).isSome = true := by rw [(fD_iff j v j).mpr ⟨Nat.le_refl j, h2, h3⟩]; rfl
  by_cases hj : j ≤ n
  · omega
  · have := all (j - n) v
    rw [show n + (j - n) = j by omega, hjj] at this
    obtain ⟨z, hz⟩ := Option.isSome_iff_exists.mp this.symm
    obtain ⟨a1, b1, c1⟩ := (fD_iff _ v z).mp hz
    have : z = j := by
      rcases Nat.lt_trichotomy z j with h | h | h
      · exact absurd b1 (h3 z h)
      · exact h
      · exact absurd h2 (c1 j h)
    omega
theorem far_some {v k : Nat} (h : far P U t v = some k) : k ≤ 16 ∧ Wk P U t k v ∧ ∀ j, j < k → ¬ Wk P U t j v := (fD_iff 16 v k).mp h
/-! ### chains -/
def lastN (c : List Nat) : Nat := c.getLastD 0
theorem lastN_app (c : List Nat) (l : Nat) : lastN (c ++ [l]) = l := by unfold lastN; simp
inductive IsW (P : List NP) (U : List Nat) (t : Nat) : List Nat → Prop
  | base : IsW P U t [t]
  | step {c : List Nat} {l : Nat} : IsW P U t c → (lastN c, l) ∈ P → l ∈ U → IsW P U t (c ++ [l])
theorem IsW.pos {c : List Nat} (h : IsW P U t c) : 1 ≤ c.length := by
  cases h <;> simp
theorem IsW.last_in (ht : t ∈ U) {c : List Nat} (h : IsW P U t c) : lastN c ∈ U := by
  cases h with
  | base => exact ht
  | step _ _ h => rw [lastN_app]; exact h
theorem IsW.all_in (ht : t ∈ U) {c : List Nat} (h : IsW P U t c) : ∀ v ∈ c, v ∈ U := by
  induction h with
  | base => intro v hv; rw [List.mem_singleton.mp hv]; exact ht
  | step _ _ h ih =>
    intro v hv
    rcases List.mem_append.mp hv with hv | hv
    · exact ih v hv
    · rw [List.mem_singleton.mp hv]; exact h
theorem IsW.join (ht : t ∈ U) {c : List Nat} (h : IsW P U t c) : ∀ {j : Nat}, Wk P U t j (lastN c) → Wk P U t (c.length - 1 + j) t := by
  induction h with
  | base =>
    intro j hw
    show Wk P U t (1 - 1 + j) t
    rw [show 1 - 1 + j = j by omega]
    exact hw
  | @step c l hc he hl ih =>
    intro j hw
    rw [lastN_app] at hw
    have := ih (j := j + 1) ⟨hc.last_in ht, l, he, hw⟩
    have hp := hc.pos
    rw [List.length_append]
    show Wk P U t (c.length + 1 - 1 + j) t
    rwa [show c.length - 1 + (j + 1) = c.length + 1 - 1 + j by omega] at this
end Pv.K44


namespace Pv.K44
open PySem PySem.Spec L2
open PyProof.Rows hiding St

/-! ### the first shortest ring -/
theorem nodup_lt : ∀ (n : Nat) (l : List Nat), l.Nodup → (∀ x ∈ l, x < n) → l.length ≤ n
  | 0, l, _, h => by
    cases l with
    | nil => exact Nat.le_refl 0
    | cons x l => exact absurd (h x List.mem_cons_self) (by omega)
  | n + 1, l, hn, h => by
    by_cases hm : n ∈ l
    · have h1 := List.length_erase_of_mem hm
      have h2 := nodup_lt n (l.erase n) (hn.erase n) (by
        intro x hx
        have h3 := hn.mem_erase_iff.mp hx
        have := h x h3.2
        have := h3.1
        omega)
      omega
    · have := nodup_lt n l hn (by
        intro x hx
        have := h x hx
        have : x ≠ n := fun e => hm (e ▸ hx)
        omega)
      omega
section
variable (P : List NP) (U : List Nat) (t : Nat)
def low (u : Nat) : List Nat := (P.filter fun p => decide (p.1 = u) && decide (p.2 ∈ U)).map (·.2)
def cand (u left : Nat) : List Nat := (P.filter fun p => decide (p.1 = u) && decide (far P U t p.2 = some left)).map (·.2)
def nxtG (u left : Nat) : Nat := (cand P U t u left).headD 0
def grd (D : Nat) : Nat → List Nat
  | 0 => [t]
  | k + 1 => grd D k ++ [nxtG P U t (lastN (grd D k)) (D - 1 - k)]
/-- the length of a shortest ring -/
structure Ring (D : Nat) : Prop where
  pos : 1 ≤ D
  wk : Wk P U t D t
  min : ∀ j, 1 ≤ j → j < D → ¬ Wk P U t j t
end
variable {P : List NP} {U : List Nat} {t : Nat}
theorem mem_low {u l : Nat} : l ∈ low P U u ↔ (u, l) ∈ P ∧ l ∈ U := by
  unfold low
  rw [List.mem_map]
  constructor
  · rintro ⟨p, hp, rfl⟩
    obtain ⟨h1, h2⟩ := List.mem_filter.mp hp
    rw [Bool.and_eq_true, decide_eq_true_iff, decide_eq_true_iff] at h2
    obtain ⟨rfl, h3⟩ := h2
    exact ⟨h1, h3⟩
  · rintro ⟨h1, h2⟩
    exact ⟨(u, l), List.mem_filter.mpr ⟨h1, by simp [h2]⟩, rfl⟩
theorem mem_cand {u left l : Nat} : l ∈ cand P U t u left ↔ (u, l) ∈ P ∧ far P U t l = some left := by
  unfold cand
  rw [List.mem_map]
  constructor
  · rintro ⟨p, hp, rfl⟩
    obtain ⟨h1, h2⟩ := List.mem_filter.mp hp
    rw [Bool.and_eq_true, decide_eq_true_iff, decide_eq_true_iff] at h2
    obtain ⟨rfl, h3⟩ := h2
    exact ⟨h1, h3⟩
  · rintro ⟨h1, h2⟩
    exact ⟨(u, l), List.mem_filter.mpr ⟨h1, by simp [h2]⟩, rfl⟩
/-- the lowers of one number ascend -/
theorem asc_snd {Q : List NP} (h : AscA leN Q) {u : Nat} (hq : ∀ p ∈ Q, p.1 = u) : (Q.map (·.2)).Pairwise (· < ·) := by
  rw [List.pairwise_map]
  refine (List.Pairwise.imp_of_mem (fun {a b} ha hb hab => ?_) h)
  have h1 := hq a ha
  have h2 := hq b hb
  have h3 := hab.1
  unfold leN at h3
  rw [decide_eq_true_iff] at h3
  have : a.2 ≠ b.2 := fun e => hab.2 (Prod.ext (by omega) e)
  omega
theorem low_asc (ha : AscA leN P) (u : Nat) : (low P U u).Pairwise (· < ·) := asc_snd (ha.sublist List.filter_sublist) (u := u) (by
  intro p hp
  have := (List.mem_filter.mp hp).2
  rw [Bool.and_eq_true, decide_eq_true_iff] at this
  exact this.1)
theorem cand_asc (ha : AscA leN P) (u left : Nat) : (cand P U t u left).Pairwise (· < ·) := asc_snd (ha.sublist List.filter_sublist) (u := u) (by
  intro p hp
  have := (List.mem_filter.mp hp).2
  rw [Bool.and_eq_true, decide_eq_true_iff] at this
  exact this.1)
theorem nxtG_mem {u left : Nat} (h : ∃ l, l ∈ cand P U t u left) : nxtG P U t u left ∈ cand P U t u left := by
  unfold nxtG
  cases hc : cand P U t u left with
  | nil =>
    obtain ⟨l, hl⟩ := h
    rw [hc] at hl
    cases hl
  | cons x r => exact List.mem_cons_self
theorem nxtG_least (ha : AscA leN P) {u left l : Nat} (h : l ∈ cand P U t u left) : nxtG P U t u left ≤ l := by
  have := cand_asc (U := U) (t := t) ha u left
  unfold nxtG
  cases hc : cand P U t u left with
  | nil => rw [hc] at h; cases h
  | cons x r =>
    rw [hc] at h this
    show x ≤ l
    rcases List.mem_cons.mp h with rfl | h
    · exact Nat.le_refl _
    · exact Nat.le_of_lt ((List.pairwise_cons.mp this).1 l h)
structure Gr (n : Nat) (P : List NP) (U : List Nat) (t : Nat) : Prop where
  few : n ≤ 16
  ht : t ∈ U
  hU : ∀ u ∈ U, u < n
  asc : AscA leN P
/-- a walk from here on that is as long as a shortest ring lets it be is a shortest one -/
theorem far_of {n : Nat} (g : Gr n P U t) {D : Nat} (r : Ring P U t D) {c : List Nat} (hc : IsW P U t c) (hl : c.length ≤ D) (hl2 : 2 ≤ c.length) (hw : Wk P U t (D + 1 - c.length) (lastN c)) : far P U t (lastN c) = some (D + 1 - c.length) := by
  obtain ⟨j, h1, h2⟩ := fD_all g.few g.hU g.ht hw
  obtain ⟨_, h3, h4⟩ := far_some h2
  have h5 := hc.join g.ht h3
  by_cases e : j = D + 1 - c.length
  · rw [← e]; exact h2
  · exact absurd h5 (r.min _ (by omega) (by omega))
theorem grd_ok {n : Nat} (g : Gr n P U t) {D : Nat} (r : Ring P U t D) : ∀ k, k + 1 ≤ D → IsW P U t (grd P U t D k) ∧ (grd P U t D k).length = k + 1 ∧ Wk P U t (D - k) (lastN (grd P U t D k))
  | 0, _ => ⟨IsW.base, rfl, r.wk⟩
  | k + 1, hk => by
    obtain ⟨h1, h2, h3⟩ := grd_ok g r k (by omega)
    have hm : nxtG P U t (lastN (grd P U t D k)) (D - 1 - k) ∈ cand P U t (lastN (grd P U t D k)) (D - 1 - k) := by
      apply nxtG_mem
      rw [show D - k = (D - 1 - k) + 1 by omega] at h3
      obtain ⟨_, l, hl, hw⟩ := h3
      have hs := IsW.step h1 hl (Wk_in g.ht hw)
      have := far_of g r hs (by rw [List.length_append]; simp; omega) (by rw [List.length_append]; simp; omega) (by
        rw [lastN_app, List.length_append]
        show Wk P U t (D + 1 - ((grd P U t D k).length + 1)) l
        rw [h2, show D + 1 - (k + 1 + 1) = D - 1 - k by omega]
        exact hw)
      rw [lastN_app, List.length_append] at this
      refine ⟨l, mem_cand.mpr ⟨hl, ?_⟩⟩
      rw [this]
      show some (D + 1 - ((grd P U t D k).length + 1)) = _
      rw [h2, show D + 1 - (k + 1 + 1) = D - 1 - k by omega]
    obtain ⟨a, b⟩ := mem_cand.mp hm
    have hw := (far_some b).2.1
    refine ⟨IsW.step h1 a (Wk_in g.ht hw), ?_, ?_⟩
    · show (grd P U t D k ++ [_]).length = _
      rw [List.length_append, h2]; rfl
    · show Wk P U t (D - (k + 1)) (lastN (grd P U t D k ++ [_]))
      rw [lastN_app, show D - (k + 1) = D - 1 - k by omega]
      exact hw
theorem grd_far {n : Nat} (g : Gr n P U t) {D : Nat} (r : Ring P U t D) (k : Nat) (hk : k + 2 ≤ D) : (lastN (grd P U t D k), nxtG P U t (lastN (grd P U t D k)) (D - 1 - k)) ∈ P ∧ far P U t (nxtG P U t (lastN (grd P U t D k)) (D - 1 - k)) = some (D - 1 - k) := by
  have hm : nxtG P U t (lastN (grd P U t D k)) (D - 1 - k) ∈ cand P U t (lastN (grd P U t D k)) (D - 1 - k) := by
    obtain ⟨h1, h2, h3⟩ := grd_ok g r k (by omega)
    apply nxtG_mem
    rw [show D - k = (D - 1 - k) + 1 by omega] at h3
    obtain ⟨_, l, hl, hw⟩ := h3
    have hs := IsW.step h1 hl (Wk_in g.ht hw)
    have := far_of g r hs (by rw [List.length_append]; simp; omega) (by rw [List.length_append]; simp; omega) (by
      rw [lastN_app, List.length_append]
      show Wk P U t (D + 1 - ((grd P U t D k).length + 1)) l
      rw [h2, show D + 1 - (k + 1 + 1) = D - 1 - k by omega]
      exact hw)
    rw [lastN_app, List.length_append] at this
    refine ⟨l, mem_cand.mpr ⟨hl, ?_⟩⟩
    rw [this]
    show some (D + 1 - ((grd P U t D k).length + 1)) = _
    rw [h2, show D + 1 - (k + 1 + 1) = D - 1 - k by omega]
  exact mem_cand.mp hm
end Pv.K44


namespace Pv.K44
open PySem PySem.Spec L2
open PyProof.Rows hiding St

/-! ### breadth first -/
def addC (c : List Nat) (ch : List (List Nat)) (l : Nat) : List (List Nat) := if l ∈ ch.map lastN then ch else ch ++ [c ++ [l]]
def stepC (P : List NP) (U : List Nat) (c : List Nat) (ch : List (List Nat)) : List (List Nat) := (low P U (lastN c)).foldl (addC c) ch
def bfs (P : List NP) (U : List Nat) (t : Nat) : Nat → Nat → List (List Nat) → Option (Option (List Nat))
  | 0, _, _ => none
  | f + 1, i, ch => match ch[i]? with
    | none => some none
    | some c => if t ∈ low P U (lastN c) then some (some c) else bfs P U t f (i + 1) (stepC P U c ch)
variable {P : List NP} {U : List Nat} {t : Nat}
/-- what the chains are like -/
structure Chs (n : Nat) (P : List NP) (U : List Nat) (t : Nat) (ch : List (List Nat)) : Prop where
  w : ∀ c ∈ ch, IsW P U t c
  nd : (ch.map lastN).Nodup
theorem Chs.len {n : Nat} (g : Gr n P U t) {ch : List (List Nat)} (h : Chs n P U t ch) : ch.length ≤ n := by
  have := nodup_lt n (ch.map lastN) h.nd (by
    intro x hx
    obtain ⟨c, hc, rfl⟩ := List.mem_map.mp hx
    exact g.hU _ ((h.w c hc).last_in g.ht))
  rwa [List.length_map] at this
theorem addC_chs {n : Nat} {ch : List (List Nat)} (h : Chs n P U t ch) {c : List Nat} (hc : c ∈ ch) {l : Nat} (hl : l ∈ low P U (lastN c)) : Chs n P U t (addC c ch l) := by
  unfold addC
  split
  · exact h
  · rename_i hn
    obtain ⟨h1, h2⟩ := mem_low.mp hl
    refine ⟨?_, ?_⟩
    · intro d hd
      rcases List.mem_append.mp hd with hd | hd
      · exact h.w d hd
      · rw [List.mem_singleton.mp hd]
        exact IsW.step (h.w c hc) h1 h2
    · rw [List.map_append, List.nodup_append]
      refine ⟨h.nd, by simp, ?_⟩
      intro a ha b hb e
      simp [lastN_app] at hb
      subst hb
      subst e
      exact hn ha
/-- new chains alone are added -/
theorem fold_addC {n : Nat} {c : List Nat} : ∀ (ls : List Nat) (ch : List (List Nat)), Chs n P U t ch → c ∈ ch → (∀ l ∈ ls, l ∈ low P U (lastN c)) → Chs n P U t (ls.foldl (addC c) ch) ∧ ∃ K, ls.foldl (addC c) ch = ch ++ K ∧ ∀ k ∈ K, ∃ l ∈ ls, k = c ++ [l]
  | [], ch, h, _, _ => ⟨h, [], by simp, by simp⟩
  | l :: ls, ch, h, hc, hl => by
    have h1 := addC_chs h hc (hl l List.mem_cons_self)
    have hc1 : c ∈ addC c ch l := by
      unfold addC
      split
      · exact hc
      · exact List.mem_append_left _ hc
    obtain ⟨h2, K, h3, h4⟩ := fold_addC ls (addC c ch l) h1 hc1 fun x hx => hl x (List.mem_cons_of_mem _ hx)
    refine ⟨h2, ?_⟩
    rw [List.foldl_cons, h3]
    unfold addC
    split
    · exact ⟨K, rfl, fun k hk => by
        obtain ⟨x, hx, e⟩ := h4 k hk
        exact ⟨x, List.mem_cons_of_mem _ hx, e⟩⟩
    · refine ⟨[c ++ [l]] ++ K, by rw [List.append_assoc], fun k hk => ?_⟩
      rcases List.mem_append.mp hk with hk | hk
      · exact ⟨l, List.mem_cons_self, List.mem_singleton.mp hk⟩
      · obtain ⟨x, hx, e⟩ := h4 k hk
        exact ⟨x, List.mem_cons_of_mem _ hx, e⟩
theorem closes {n : Nat} (g : Gr n P U t) {c : List Nat} (h : IsW P U t c) (hc : t ∈ low P U (lastN c)) : Wk P U t c.length t ∧ Wk P U t 1 (lastN c) := by
  obtain ⟨h1, h2⟩ := mem_low.mp hc
  have hw : Wk P U t 1 (lastN c) := ⟨h.last_in g.ht, t, h1, rfl⟩
  have := h.join g.ht hw
  have hp := h.pos
  rw [show c.length - 1 + 1 = c.length by omega] at this
  exact ⟨this, hw⟩
theorem bfs_none {n : Nat} (g : Gr n P U t) (no : ∀ j, 1 ≤ j → ¬ Wk P U t j t) : ∀ (f i : Nat) (ch : List (List Nat)), Chs n P U t ch → i ≤ ch.length → 17 ≤ f + i → bfs P U t f i ch = some none
  | 0, i, ch, h, hi, hf => by
    have := h.len g
    have := g.few
    omega
  | f + 1, i, ch, h, hi, hf => by
    unfold bfs
    cases hx : ch[i]? with
    | none => rfl
    | some c =>
      have hc := List.mem_of_getElem? hx
      obtain ⟨hlt, _⟩ := List.getElem?_eq_some_iff.mp hx
      have hw := h.w c hc
      have hn : ¬ t ∈ low P U (lastN c) := fun hm => no _ hw.pos (closes g hw hm).1
      show (if t ∈ low P U (lastN c) then some (some c) else bfs P U t f (i + 1) (stepC P U c ch)) = _
      rw [if_neg hn]
      obtain ⟨h1, K, h2, _⟩ := fold_addC (low P U (lastN c)) ch h hc fun l hl => hl
      refine bfs_none g no f (i + 1) _ h1 ?_ (by omega)
      show i + 1 ≤ ((low P U (lastN c)).foldl (addC c) ch).length
      rw [h2, List.length_append]
      omega
/-- can be closed by a walk to a shortest ring -/
def Good (P : List NP) (U : List Nat) (t D : Nat) (c : List Nat) : Prop := Wk P U t (D + 1 - c.length) (lastN c)
theorem bfs_ring {n : Nat} (g : Gr n P U t) {D : Nat} (r : Ring P U t D) : ∀ (f idx i : Nat) (A B ch : List (List Nat)), Chs n P U t ch → ch = A ++ grd P U t D i :: B → i + 1 ≤ D → idx ≤ A.length → (∀ c ∈ A, c.length ≤ i + 1) → (∀ c ∈ A.drop idx, c.length = i + 1 → ¬ Good P U t D c) → (∀ c ∈ B, c.length ≤ i + 1 ∨ (c.length = i + 2 ∧ ¬ Good P U t D c)) → 17 ≤ f + idx → bfs P U t f idx ch = some (some (grd P U t D (D - 1)))
  | 0, idx, i, A, B, ch, h, hs, hi, hx, a1, a2, b1, hf => by
    have h1 := h.len g
    have h2 := g.few
    rw [hs, List.length_append, List.length_cons] at h1
    omega
  | f + 1, idx, i, A, B, ch, h, hs, hi, hx, a1, a2, b1, hf => by
    obtain ⟨g1, g2, g3⟩ := grd_ok g r i hi
    have hG : grd P U t D i ∈ ch := by rw [hs]; simp
    -- no child of a chain that is not good is good
    have child : ∀ (c : List Nat) (l : Nat), IsW P U t c → l ∈ low P U (lastN c) → c.length ≤ D → Good P U t D (c ++ [l]) → Good P U t D c := by
      intro c l hw hl hcl hg
      unfold Good at *
      rw [lastN_app, List.length_append] at hg
      have hg : Wk P U t (D + 1 - (c.length + 1)) l := hg
      rw [show D + 1 - c.length = (D + 1 - (c.length + 1)) + 1 by omega]
      exact ⟨hw.last_in g.ht, l, (mem_low.mp hl).1, hg⟩
    by_cases hlt : idx < A.length
    · -- a chain ahead of the ring's
      have hxc : ch[idx]? = some A[idx] := by
        rw [hs, List.getElem?_append_left hlt]
        exact List.getElem?_eq_getElem hlt
      have hcA : A[idx] ∈ A := List.getElem_mem hlt
      have hc : A[idx] ∈ ch := by rw [hs]; exact List.mem_append_left _ hcA
      have hw := h.w _ hc
      have hl := a1 _ hcA
      have hdrop : A.drop idx = A[idx] :: A.drop (idx + 1) := List.drop_eq_getElem_cons hlt
      have hng := a2 A[idx] (by rw [hdrop]; exact List.mem_cons_self)
      have hn : ¬ t ∈ low P U (lastN A[idx]) := by
        intro hm
        obtain ⟨c1, c2⟩ := closes g hw hm
        by_cases hd : A[idx].length < D
        · exact r.min _ hw.pos hd c1
        · have e : A[idx].length = i + 1 := by omega
          refine hng e ?_
          unfold Good
          rw [show D + 1 - A[idx].length = 1 by omega]
          exact c2
      unfold bfs
      rw [hxc]
      show (if t ∈ low P U (lastN A[idx]) then some (some A[idx]) else bfs P U t f (idx + 1) (stepC P U A[idx] ch)) = _
      rw [if_neg hn]
      obtain ⟨h1, K, h2, h3⟩ := fold_addC (low P U (lastN A[idx])) ch h hc fun l hl => hl
      refine bfs_ring g r f (idx + 1) i A (B ++ K) _ h1 ?_ hi (by omega) a1 ?_ ?_ (by omega)
      · show (low P U (lastN A[idx])).foldl (addC A[idx]) ch = _
        rw [h2, hs, List.append_assoc, List.cons_append]
      · intro c hc' hcl
        exact a2 c (by rw [hdrop]; exact List.mem_cons_of_mem _ hc') hcl
      · intro c hc'
        rcases List.mem_append.mp hc' with hc' | hc'
        · exact b1 c hc'
        · obtain ⟨l, hl', rfl⟩ := h3 c hc'
          rw [List.length_append]
          show A[idx].length + 1 ≤ i + 1 ∨ A[idx].length + 1 = i + 2 ∧ _
          by_cases e : A[idx].length = i + 1
          · right
            exact ⟨by omega, fun hg => hng e (child _ l hw hl' (by omega) hg)⟩
          · left
            omega
    · -- the ring's own chain
      have hidx : idx = A.length := by omega
      have hxc : ch[idx]? = some (grd P U t D i) := by
        rw [hs, hidx, List.getElem?_append_right (Nat.le_refl _)]
        simp
      unfold bfs
      rw [hxc]
      show (if t ∈ low P U (lastN (grd P U t D i)) then some (some (grd P U t D i)) else bfs P U t f (idx + 1) (stepC P U (grd P U t D i) ch)) = _
      by_cases hend : i + 1 = D
      · have hw1 : Wk P U t 1 (lastN (grd P U t D i)) := by rwa [show D - i = 1 by omega] at g3
        obtain ⟨_, l, hl, e⟩ := hw1
        have e : l = t := e
        subst e
        rw [if_pos (mem_low.mpr ⟨hl, g.ht⟩), show D - 1 = i by omega]
      · have hn : ¬ t ∈ low P U (lastN (grd P U t D i)) := by
          intro hm
          have := (closes g g1 hm).1
          rw [g2] at this
          exact r.min _ (by omega) (by omega) this
        rw [if_neg hn]
        obtain ⟨e1, e2⟩ := grd_far g r i (by omega)
        generalize hnx : nxtG P U t (lastN (grd P U t D i)) (D - 1 - i) = nx at e1 e2
        have hnl : nx ∈ low P U (lastN (grd P U t D i)) := mem_low.mpr ⟨e1, Wk_in g.ht (far_some e2).2.1⟩
        obtain ⟨pre, post, hsp⟩ := List.append_of_mem hnl
        have hasc := low_asc (U := U) g.asc (lastN (grd P U t D i))
        rw [hsp] at hasc
        have hpre : ∀ l ∈ pre, far P U t l ≠ some (D - 1 - i) := by
          intro l hl e
          have hlt : l < nx := (List.pairwise_append.mp hasc).2.2 l hl nx List.mem_cons_self
          have hlow : l ∈ low P U (lastN (grd P U t D i)) := by rw [hsp]; exact List.mem_append_left _ hl
          have := nxtG_least (t := t) (U := U) g.asc (left := D - 1 - i) (mem_cand.mpr ⟨(mem_low.mp hlow).1, e⟩)
          omega
        have inlow : ∀ l, l ∈ pre ∨ l ∈ post → l ∈ low P U (lastN (grd P U t D i)) := by
          intro l hl
          rw [hsp]
          rcases hl with hl | hl
          · exact List.mem_append_left _ hl
          · exact List.mem_append_right _ (List.mem_cons_of_mem _ hl)
        obtain ⟨h1, K1, h2, h3⟩ := fold_addC pre ch h hG fun l hl => inlow l (.inl hl)
        have k1 : ∀ k ∈ K1, k.length = i + 2 ∧ ¬ Good P U t D k := by
          intro k hk
          obtain ⟨l, hl, rfl⟩ := h3 k hk
          refine ⟨by rw [List.length_append, g2]; rfl, fun hg => ?_⟩
          have hlow := inlow l (.inl hl)
          obtain ⟨m1, m2⟩ := mem_low.mp hlow
          have := far_of g r (IsW.step g1 m1 m2) (by rw [List.length_append, g2]; simp; omega) (by rw [List.length_append, g2]; simp) hg
          rw [lastN_app, List.length_append, g2] at this
          exact hpre l hl (this.trans (by show some (D + 1 - (i + 1 + 1)) = _; rw [show D + 1 - (i + 1 + 1) = D - 1 - i by omega]))
        have fresh : ¬ nx ∈ (ch ++ K1).map lastN := by
          intro hm
          obtain ⟨c, hc, e⟩ := List.mem_map.mp hm
          have hw' := (far_some e2).2.1
          have short : ∀ c, IsW P U t c → c.length ≤ i + 1 → lastN c = nx → False := by
            intro c hcw hcl hce
            have hp := hcw.pos
            have := hcw.join g.ht (j := D - 1 - i) (by rw [hce]; exact hw')
            exact r.min _ (by omega) (by omega) this
          have long : ∀ c, c.length = i + 2 → ¬ Good P U t D c → lastN c = nx → False := by
            intro c hcl hng hce
            apply hng
            unfold Good
            rw [hce, hcl, show D + 1 - (i + 2) = D - 1 - i by omega]
            exact hw'
          rcases List.mem_append.mp hc with hc | hc
          · have hcw := h.w c hc
            rw [hs] at hc
            rcases List.mem_append.mp hc with hc | hc
            · exact short c hcw (a1 c hc) e
            · rcases List.mem_cons.mp hc with rfl | hc
              · exact short _ hcw (by rw [g2]; exact Nat.le_refl _) e
              · rcases b1 c hc with hb | ⟨hb, hng⟩
                · exact short c hcw hb e
                · exact long c hb hng e
          · obtain ⟨kl, kg⟩ := k1 c hc
            exact long c kl kg e
        have hG1 : grd P U t D i ∈ ch ++ K1 := List.mem_append_left _ hG
        rw [h2] at h1
        have hadd : addC (grd P U t D i) (ch ++ K1) nx = ch ++ K1 ++ [grd P U t D (i + 1)] := by
          unfold addC
          rw [if_neg fresh]
          show _ = ch ++ K1 ++ [grd P U t D i ++ [nxtG P U t (lastN (grd P U t D i)) (D - 1 - i)]]
          rw [hnx]
        have h4 := addC_chs h1 hG1 hnl
        rw [hadd] at h4
        obtain ⟨h5, K2, h6, h7⟩ := fold_addC post (ch ++ K1 ++ [grd P U t D (i + 1)]) h4 (List.mem_append_left _ hG1) fun l hl => inlow l (.inr hl)
        have hstep : stepC P U (grd P U t D i) ch = ch ++ K1 ++ [grd P U t D (i + 1)] ++ K2 := by
          unfold stepC
          rw [hsp, List.foldl_append, h2, List.foldl_cons, hadd, h6]
        rw [hstep]
        rw [h6] at h5
        refine bfs_ring g r f (idx + 1) (i + 1) (ch ++ K1) K2 _ h5 (by simp) (by omega) (by
          rw [hs, List.length_append, List.length_append, List.length_cons]
          omega) ?_ ?_ ?_ (by omega)
        · intro c hc
          rcases List.mem_append.mp hc with hc | hc
          · rw [hs] at hc
            rcases List.mem_append.mp hc with hc | hc
            · have := a1 c hc
              omega
            · rcases List.mem_cons.mp hc with rfl | hc
              · rw [g2]; omega
              · rcases b1 c hc with hb | ⟨hb, _⟩ <;> omega
          · rw [(k1 c hc).1]
            exact Nat.le_refl _
        · intro c hc hcl
          have hd : (ch ++ K1).drop (idx + 1) = B ++ K1 := by
            rw [hs, hidx]
            simp [List.drop_append, List.drop_eq_nil_of_le]
          rw [hd] at hc
          rcases List.mem_append.mp hc with hc | hc
          · rcases b1 c hc with hb | ⟨hb, hng⟩
            · omega
            · exact hng
          · exact (k1 c hc).2
        · intro c hc
          obtain ⟨l, _, rfl⟩ := h7 c hc
          left
          rw [List.length_append, g2]
          exact Nat.le_refl _
end Pv.K44


namespace Pv.K44
open PySem PySem.Spec L2
open PyProof.Rows hiding St

/-! ### unsettled numbers, ring_from -/
def unsL (n : Nat) (F : Fd) : List Nat := (List.range n).filter fun m => (F m).isNone
theorem GF_is (F : Fd) (m : Nat) : decide ((GF F m).1 = "unsettled") = (F m).isNone := by
  cases h : F m with
  | none => rw [gf_n h]; rfl
  | some y =>
    obtain ⟨b, k⟩ := y
    cases b with
    | true => rw [gf_t h]; exact decide_eq_false lab_ne.2.1
    | false => rw [gf_f h]; exact decide_eq_false lab_ne.2.2.1
theorem v_unsettled (k n : Nat) (hn : n ≤ 16) (P : List NP) : Ev (k + 3) f_unsettled_numbers [.int n, pvD P] = .ok (nsD (unsL n (St n P))) := by
  refine (e_unsettled_numbers (k + 2) _).trans ?_
  have h1 := v_settle k n hn P
  rw [valD_I] at h1
  generalize Ev (k + 2) = Φ at h1
  have hq := compL_on natD (fun m => (St n P m).isNone) natD (i := 3) (t := q_unsettled_numbers_0 Φ) (e := c_unsettled_numbers_0 Φ) (ρ := [.dat (.int n) false, .dat (pvD P) false, .dat (valI n (GF (St n P))) false, .no]) (l := List.range n) (by
    intro m hm
    have hm : m < n := by simpa using hm
    have h2 := val_at (G := GF (St n P)) hm
    have h3 := rI_0 (GF (St n P) m)
    rw [← GF_is]
    generalize rwI (GF (St n P) m) = Y at *
    generalize valI n (GF (St n P)) = V at *
    generalize pvD P = PD at *
    exact ⟨by simp [q_unsettled_numbers_0, natD, h2, h3], fun _ => by simp [c_unsettled_numbers_0]⟩)
  have hr := cRange1_nat (n := n) (a := cVarB 0) (ρ := [.dat (.int n) false, .dat (pvD P) false, .dat (valI n (GF (St n P))) false, .no]) (by simp) (by omega)
  unfold nsD unsL
  generalize hR : (List.range n).map natD = L at hr hq
  generalize ((List.range n).filter fun m => (St n P m).isNone).map natD = S at *
  generalize valI n (GF (St n P)) = V at *
  generalize pvD P = PD at *
  simp [-cRange1_ap, t_unsettled_numbers, h1, hr, hq]
def nlD (l : List Nat) : PyData := .list (l.map natD)
def chL (ch : List (List Nat)) : List PyData := ch.map nlD
theorem mem_nats (x : Nat) (l : List Nat) : memD (natD x) (l.map natD) = decide (x ∈ l) := by
  unfold memD natD
  rw [List.any_map]
  induction l with
  | nil => rfl
  | cons y l ih =>
    rw [List.any_cons, ih]
    show (PyData.eqv (.int y) (.int x) || decide (x ∈ l)) = _
    have : PyData.eqv (.int (y : Int)) (.int (x : Int)) = decide (y = x) := by
      simp [PyData.eqv, Bool.beq_eq_decide_eq]
      omega
    rw [this]
    by_cases h : y = x
    · simp [h]
    · have h' : ¬ x = y := fun e => h e.symm
      simp [h, h']
theorem nd_nats (l : List Nat) : noDics (l.map natD) = true := noDics_all fun d hd => by
  obtain ⟨x, _, rfl⟩ := List.mem_map.mp hd
  rfl
theorem in_nats (x : Nat) (l : List Nat) : inD (natD x) (.tuple (l.map natD)) = .ok (.bool (decide (x ∈ l))) ∧ inD (natD x) (.list (l.map natD)) = .ok (.bool (decide (x ∈ l))) := by
  have := inD_seq (d := natD x) (ds := l.map natD) (by simp [natD, PyData.depth]) rfl (nd_nats l)
  rw [mem_nats] at this
  exact this
theorem last_nl {c : List Nat} (h : 1 ≤ c.length) : ixD (nlD c) (.int (-1)) = .ok (natD (lastN c)) := by
  rcases List.eq_nil_or_concat c with rfl | ⟨init, x, rfl⟩
  · simp at h
  · rw [List.concat_eq_append, lastN_app]
    unfold nlD
    rw [List.map_append]
    exact ixL_last _ _
def wT : CT := cTst (c2 ltD (cVarB 5) (c1 lenD (cVarB 3)))
def wB (Φ : Ph) : CS := sSeq (disow [] (sSet 6 false (c2 ixD (cVarB 3) (cVarB 5)))) (sSeq (disow [9] (sSet 7 true (cComp (cItE (cVarB 0)) [8, 9] (.tup [8, 9]) (q_ring_from_0 Φ) (c_ring_from_0 Φ)))) (sSeq (sIf (cTst (c2 inD (cVarB 2) (cVarB 7))) (sSeq (disow [6] (sRet (cVar 6))) (sNx)) (sNx)) (sSeq (disow [7] (sFor (cItE (cVar 7)) (.one 9) (b_ring_from_0 Φ))) (sSeq (disow [] (sSet 5 true (c2 addD (cVarB 5) (cK (.int 1))))) (sNx)))))
/-- which ones were seen -/
def SeenN (kvs : List (PyData × PyData)) (ch : List (List Nat)) : Prop := DcN kvs fun v => if v ∈ ch.map lastN then some (.bool true) else none
theorem u_ring_add (Φ : Ph) (c : List Nat) (hc : c.length ≤ 1000) (ch : List (List Nat)) (hch : ch.length ≤ 1000) (kvs : List (PyData × PyData)) (hs : SeenN kvs ch) (hk : kvs.length ≤ 10000) (l : Nat) (s0 s1 s2 s5 s7 s8 : Sl) :
    ∃ kvs', b_ring_from_0 Φ [s0, s1, s2, .dat (.list (chL ch)) true, .dat (.dict kvs) true, s5, .dat (nlD c) false, s7, s8, .dat (natD l) false] = .nx [s0, s1, s2, .dat (.list (chL (addC c ch l))) true, .dat (.dict kvs') true, s5, .dat (nlD c) false, s7, s8, .dat (natD l) false] ∧ SeenN kvs' (addC c ch l) ∧ kvs'.length ≤ kvs.length + 1 := by
  have h1 := hs.notIn l
  unfold addC
  by_cases hm : l ∈ ch.map lastN
  · rw [if_pos hm] at h1 ⊢
    refine ⟨kvs, ?_, hs, by omega⟩
    have h1 : notInD (.int l) (.dict kvs) = .ok (.bool false) := h1
    generalize nlD c = C at *
    generalize chL ch = CH at *
    simp [b_ring_from_0, natD, h1]
  · rw [if_neg hm] at h1 ⊢
    have h1 : notInD (.int l) (.dict kvs) = .ok (.bool true) := h1
    refine ⟨putG keyK kD (.inl (l : Int)) (.bool true) kvs, ?_, ?_, putG_len ..⟩
    · have hp := hs.sput (i := 4) (cj := cVarB 9) (c := cK (.bool true)) (ρ := [s0, s1, s2, .dat (.list (chL ch)) true, .dat (.dict kvs) true, s5, .dat (nlD c) false, s7, s8, .dat (natD l) false]) (m := l) (v := .bool true) rfl (by simp [natD]) (by simp) (by omega)
      have ad : addD (nlD c) (.list [.int l]) = .ok (nlD (c ++ [l])) := by
        have z0 : sizeLine = 16777216 := rfl
        unfold nlD
        rw [addL _ _ (by simp; omega), List.map_append]; rfl
      have hl : (chL ch).length < 16000000 := by unfold chL; rw [List.length_map]; omega
      have e : chL (ch ++ [c ++ [l]]) = chL ch ++ [nlD (c ++ [l])] := by unfold chL; rw [List.map_append]; rfl
      rw [e]
      have s3 : disow [] (sPut 4 (cVarB 9) (cK (.bool true))) [s0, s1, s2, .dat (.list (chL ch)) true, .dat (.dict kvs) true, s5, .dat (nlD c) false, s7, s8, .dat (natD l) false] = .nx [s0, s1, s2, .dat (.list (chL ch)) true, .dat (.dict (putG keyK kD (.inl (l : Int)) (.bool true) kvs)) true, s5, .dat (nlD c) false, s7, s8, .dat (natD l) false] := by
        rw [disow_ap, disL_nil]
        exact hp
      have s4 : disow [9] (sApp 3 (c2 addD (cVarB 6) (cLst [cVar 9]))) [s0, s1, s2, .dat (.list (chL ch)) true, .dat (.dict (putG keyK kD (.inl (l : Int)) (.bool true) kvs)) true, s5, .dat (nlD c) false, s7, s8, .dat (natD l) false] = .nx [s0, s1, s2, .dat (.list (chL ch ++ [nlD (c ++ [l])])) true, .dat (.dict (putG keyK kD (.inl (l : Int)) (.bool true) kvs)) true, s5, .dat (nlD c) false, s7, s8, .dat (natD l) false] := by
        generalize putG keyK kD (.inl (l : Int)) (.bool true) kvs = kk
        generalize nlD (c ++ [l]) = C2 at *
        generalize nlD c = C at *
        generalize chL ch = CH at *
        simp [natD, ad, hl]
      have ht : cTst (c2 notInD (cVarB 9) (cVarB 4)) [s0, s1, s2, .dat (.list (chL ch)) true, .dat (.dict kvs) true, s5, .dat (nlD c) false, s7, s8, .dat (natD l) false] = .ok true := by
        generalize nlD c = C at *
        generalize chL ch = CH at *
        simp [natD, h1]
      unfold b_ring_from_0
      rw [sSeq_ap, sIf_ap, ht]
      show (match sSeq _ (sSeq _ sNx) _ with | .nx ρ' => sNx ρ' | r => r) = _
      rw [seq_nx s3, seq_nx s4]
      rfl
    · refine (hs.put l (.bool true)).congr fun x => ?_
      rw [List.map_append]
      by_cases hx : x = l
      · rw [if_pos hx, if_pos (by rw [hx]; simp [lastN_app])]
      · rw [if_neg hx]
        by_cases hx2 : x ∈ ch.map lastN
        · rw [if_pos hx2, if_pos (List.mem_append_left _ hx2)]
        · rw [if_neg hx2, if_neg]
          intro z
          rcases List.mem_append.mp z with z | z
          · exact hx2 z
          · simp [lastN_app] at z
            exact hx z
end Pv.K44


namespace Pv.K44
open PySem PySem.Spec L2
open PyProof.Rows hiding St

/-! ### ring_from: the walk -/
theorem fold_len {c : List Nat} : ∀ (ls : List Nat) (ch : List (List Nat)), (ls.foldl (addC c) ch).length ≤ ch.length + ls.length
  | [], ch => Nat.le_refl _
  | l :: ls, ch => by
    have := fold_len (c := c) ls (addC c ch l)
    have h2 : (addC c ch l).length ≤ ch.length + 1 := by
      unfold addC
      split
      · omega
      · rw [List.length_append]; exact Nat.le_refl _
    rw [List.foldl_cons, List.length_cons]
    omega
theorem low_le (P : List NP) (U : List Nat) (u : Nat) : (low P U u).length ≤ P.length := by
  unfold low
  rw [List.length_map]
  exact List.length_filter_le _ _
theorem u_ring_body (Φ : Ph) (P : List NP) (U : List Nat) (t : Nat) (hP : P.length ≤ 100) (ch : List (List Nat)) (hch : ch.length ≤ 16) (kvs : List (PyData × PyData)) (hs : SeenN kvs ch) (hk : kvs.length ≤ 5000) (i : Nat) (c : List Nat) (hi : ch[i]? = some c) (hc1 : 1 ≤ c.length) (hc2 : c.length ≤ 500) (s6 s7 s9 : Sl) (c9 : Cl s9) :
    (t ∈ low P U (lastN c) ∧ wB Φ [.dat (pvD P) false, .dat (nsD U) false, .dat (natD t) false, .dat (.list (chL ch)) true, .dat (.dict kvs) true, .dat (natD i) false, s6, s7, .no, s9] = .rt (nlD c)) ∨
    (¬ t ∈ low P U (lastN c) ∧ ∃ kvs' s6' s7' s9', wB Φ [.dat (pvD P) false, .dat (nsD U) false, .dat (natD t) false, .dat (.list (chL ch)) true, .dat (.dict kvs) true, .dat (natD i) false, s6, s7, .no, s9] = .nx [.dat (pvD P) false, .dat (nsD U) false, .dat (natD t) false, .dat (.list (chL (stepC P U c ch))) true, .dat (.dict kvs') true, .dat (natD (i + 1)) false, s6', s7', .no, s9'] ∧ SeenN kvs' (stepC P U c ch) ∧ kvs'.length ≤ kvs.length + 100 ∧ Cl s9') := by
  have hx : ixD (.list (chL ch)) (.int i) = .ok (nlD c) := ixL_nat (by unfold chL; rw [List.getElem?_map, hi]; rfl)
  have hla := last_nl hc1
  have hq := compL_on2 (fun p : NP => .int p.1) (fun p : NP => .int p.2) (fun p => decide (p.1 = lastN c) && decide (p.2 ∈ U)) (fun p => natD p.2) (i := 8) (j := 9) (t := q_ring_from_0 Φ) (e := c_ring_from_0 Φ) (ρ := [.dat (pvD P) false, .dat (nsD U) false, .dat (natD t) false, .dat (.list (chL ch)) true, .dat (.dict kvs) true, .dat (natD i) false, .dat (nlD c) false, s7, .no, .no]) (l := P) (by
    intro p _
    have h1 := (in_nats p.2 U).1
    have e1 : nsD U = .tuple (U.map natD) := rfl
    have e2 : decide ((p.1 : Int) = (lastN c : Int)) = decide (p.1 = lastN c) := decide_eq_decide.mpr (by constructor <;> intro z <;> omega)
    rw [e1]
    generalize U.map natD = UL at *
    generalize nlD c = C at *
    generalize pvD P = PD at *
    generalize chL ch = CH at *
    unfold natD at *
    refine ⟨?_, fun _ => by simp [c_ring_from_0]⟩
    by_cases hp : p.1 = lastN c
    · have hp' : (p.1 : Int) = (lastN c : Int) := by omega
      simp [q_ring_from_0, hla, hp, h1]
    · have hp' : ¬ (p.1 : Int) = (lastN c : Int) := by omega
      simp [q_ring_from_0, hla, hp, hp'])
  have e2 : (P.map fun a : NP => PyData.tuple [.int a.1, .int a.2]) = P.map prN := rfl
  have e3 : (P.filter fun p => decide (p.1 = lastN c) && decide (p.2 ∈ U)).map (fun p => natD p.2) = (low P U (lastN c)).map natD := by unfold low; rw [List.map_map]; rfl
  rw [e2, e3] at hq
  have ei : itD (pvD P) = .ok (P.map prN) := rfl
  have ht := (in_nats t (low P U (lastN c))).2
  have s1 : disow [] (sSet 6 false (c2 ixD (cVarB 3) (cVarB 5))) [.dat (pvD P) false, .dat (nsD U) false, .dat (natD t) false, .dat (.list (chL ch)) true, .dat (.dict kvs) true, .dat (natD i) false, s6, s7, .no, s9] = .nx [.dat (pvD P) false, .dat (nsD U) false, .dat (natD t) false, .dat (.list (chL ch)) true, .dat (.dict kvs) true, .dat (natD i) false, .dat (nlD c) false, s7, .no, s9] := by
    generalize nlD c = C at *
    generalize pvD P = PD at *
    generalize chL ch = CH at *
    simp [natD, hx]
  have s2 : disow [9] (sSet 7 true (cComp (cItE (cVarB 0)) [8, 9] (.tup [8, 9]) (q_ring_from_0 Φ) (c_ring_from_0 Φ))) [.dat (pvD P) false, .dat (nsD U) false, .dat (natD t) false, .dat (.list (chL ch)) true, .dat (.dict kvs) true, .dat (natD i) false, .dat (nlD c) false, s7, .no, s9] = .nx [.dat (pvD P) false, .dat (nsD U) false, .dat (natD t) false, .dat (.list (chL ch)) true, .dat (.dict kvs) true, .dat (natD i) false, .dat (nlD c) false, .dat (.list ((low P U (lastN c)).map natD)) true, .no, s9] := by
    generalize nlD c = C at *
    generalize pvD P = PD at *
    generalize chL ch = CH at *
    generalize (low P U (lastN c)).map natD = LL at *
    generalize P.map prN = PL at *
    rcases c9 with rfl | ⟨d, rfl⟩ <;> simp [ei, hq]
  by_cases hm : t ∈ low P U (lastN c)
  · left
    refine ⟨hm, ?_⟩
    rw [decide_eq_true hm] at ht
    unfold wB
    rw [seq_nx s1, seq_nx s2]
    have hnl : isL (nlD c) = true := rfl
    generalize nlD c = C at *
    generalize pvD P = PD at *
    generalize chL ch = CH at *
    generalize (low P U (lastN c)).map natD = LL at *
    have s3 : sIf (cTst (c2 inD (cVarB 2) (cVarB 7))) (sSeq (disow [6] (sRet (cVar 6))) (sNx)) (sNx) [.dat PD false, .dat (nsD U) false, .dat (natD t) false, .dat (.list CH) true, .dat (.dict kvs) true, .dat (natD i) false, .dat C false, .dat (.list LL) true, .no, s9] = .rt C := by simp [ht]
    rw [seq_rt s3]
  · right
    refine ⟨hm, ?_⟩
    rw [decide_eq_false hm] at ht
    have s3 : sIf (cTst (c2 inD (cVarB 2) (cVarB 7))) (sSeq (disow [6] (sRet (cVar 6))) (sNx)) (sNx) [.dat (pvD P) false, .dat (nsD U) false, .dat (natD t) false, .dat (.list (chL ch)) true, .dat (.dict kvs) true, .dat (natD i) false, .dat (nlD c) false, .dat (.list ((low P U (lastN c)).map natD)) true, .no, s9] = .nx [.dat (pvD P) false, .dat (nsD U) false, .dat (natD t) false, .dat (.list (chL ch)) true, .dat (.dict kvs) true, .dat (natD i) false, .dat (nlD c) false, .dat (.list ((low P U (lastN c)).map natD)) true, .no, s9] := by
      generalize nlD c = C at *
      generalize pvD P = PD at *
      generalize chL ch = CH at *
      generalize (low P U (lastN c)).map natD = LL at *
      simp [ht]
    have hll : (low P U (lastN c)).length ≤ 100 := by have := low_le P U (lastN c); omega
    obtain ⟨ρ', g, kvs', s9', rfl, k1, k2, k3⟩ := forL_inv natD (fun done ρ => ∃ kvs' s9', ρ = [.dat (pvD P) false, .dat (nsD U) false, .dat (natD t) false, .dat (.list (chL (done.foldl (addC c) ch))) true, .dat (.dict kvs') true, .dat (natD i) false, .dat (nlD c) false, .dat (.list ((low P U (lastN c)).map natD)) false, .no, s9'] ∧ SeenN kvs' (done.foldl (addC c) ch) ∧ kvs'.length ≤ kvs.length + done.length ∧ Cl s9') (i := 9) (b := b_ring_from_0 Φ) (low P U (lastN c)) (by
      rintro done l rest ρ e ⟨kvs', s9', rfl, k1, k2, k3⟩
      have hdl : done.length ≤ 100 := by
        have := congrArg List.length e
        rw [List.length_append, List.length_cons] at this
        omega
      have hfl := fold_len (c := c) done ch
      obtain ⟨kvs2, g1, g2, g3⟩ := u_ring_add Φ c (by omega) (done.foldl (addC c) ch) (by omega) kvs' k1 (by omega) l (.dat (pvD P) false) (.dat (nsD U) false) (.dat (natD t) false) (.dat (natD i) false) (.dat (.list ((low P U (lastN c)).map natD)) false) .no
      refine ⟨_, .inl g1, kvs2, .dat (natD l) false, ?_, ?_, ?_, cl_dat _⟩
      · rw [List.foldl_append]; rfl
      · rw [List.foldl_append]; exact g2
      · rw [List.length_append]; simp; omega) (ρ := [.dat (pvD P) false, .dat (nsD U) false, .dat (natD t) false, .dat (.list (chL ch)) true, .dat (.dict kvs) true, .dat (natD i) false, .dat (nlD c) false, .dat (.list ((low P U (lastN c)).map natD)) false, .no, s9]) ⟨kvs, s9, rfl, hs, by simp, c9⟩
    have s4 : disow [7] (sFor (cItE (cVar 7)) (.one 9) (b_ring_from_0 Φ)) [.dat (pvD P) false, .dat (nsD U) false, .dat (natD t) false, .dat (.list (chL ch)) true, .dat (.dict kvs) true, .dat (natD i) false, .dat (nlD c) false, .dat (.list ((low P U (lastN c)).map natD)) true, .no, s9] = .nx [.dat (pvD P) false, .dat (nsD U) false, .dat (natD t) false, .dat (.list (chL ((low P U (lastN c)).foldl (addC c) ch))) true, .dat (.dict kvs') true, .dat (natD i) false, .dat (nlD c) false, .dat (.list ((low P U (lastN c)).map natD)) false, .no, s9'] := by
      have e : disL [7] [.dat (pvD P) false, .dat (nsD U) false, .dat (natD t) false, .dat (.list (chL ch)) true, .dat (.dict kvs) true, .dat (natD i) false, .dat (nlD c) false, .dat (.list ((low P U (lastN c)).map natD)) true, .no, s9] = [.dat (pvD P) false, .dat (nsD U) false, .dat (natD t) false, .dat (.list (chL ch)) true, .dat (.dict kvs) true, .dat (natD i) false, .dat (nlD c) false, .dat (.list ((low P U (lastN c)).map natD)) false, .no, s9] := rfl
      rw [disow_ap, e]
      exact for_nx (by simp) g
    refine ⟨kvs', .dat (nlD c) false, .dat (.list ((low P U (lastN c)).map natD)) false, s9', ?_, k1, by omega, k3⟩
    unfold wB
    rw [seq_nx s1, seq_nx s2, seq_nx s3, seq_nx s4]
    unfold stepC
    generalize chL ((low P U (lastN c)).foldl (addC c) ch) = CH2 at *
    generalize nlD c = C at *
    generalize pvD P = PD at *
    generalize (low P U (lastN c)).map natD = LL at *
    simp [natD]
theorem while_ring (Φ : Ph) {n : Nat} {P : List NP} {U : List Nat} {t : Nat} (g : Gr n P U t) (hP : P.length ≤ 100) : ∀ (f wn i : Nat) (ch : List (List Nat)) (kvs : List (PyData × PyData)) (s6 s7 s9 : Sl) (r : Option (List Nat)), bfs P U t f i ch = some r → f ≤ wn → Chs n P U t ch → (∀ c ∈ ch, c.length ≤ i + 1) → SeenN kvs ch → kvs.length ≤ 100 * i + 1 → Cl s9 →
    (∃ c, r = some c ∧ whileL wT (wB Φ) wn [.dat (pvD P) false, .dat (nsD U) false, .dat (natD t) false, .dat (.list (chL ch)) true, .dat (.dict kvs) true, .dat (natD i) false, s6, s7, .no, s9] = .rt (nlD c)) ∨ (r = none ∧ ∃ ρ', whileL wT (wB Φ) wn [.dat (pvD P) false, .dat (nsD U) false, .dat (natD t) false, .dat (.list (chL ch)) true, .dat (.dict kvs) true, .dat (natD i) false, s6, s7, .no, s9] = .nx ρ')
  | 0, wn, i, ch, kvs, s6, s7, s9, r, hb, _, _, _, _, _, _ => by cases hb
  | f + 1, wn, i, ch, kvs, s6, s7, s9, r, hb, hw, h, hl, hs, hk, c9 => by
    obtain ⟨wn, rfl⟩ : ∃ m, wn = m + 1 := ⟨wn - 1, by omega⟩
    have hcl := h.len g
    have hn := g.few
    have hlen : lenD (.list (chL ch)) = .ok (.int ch.length) := by show R.ok (PyData.int ((chL ch).length : Nat)) = _; unfold chL; rw [List.length_map]
    have htest : wT [.dat (pvD P) false, .dat (nsD U) false, .dat (natD t) false, .dat (.list (chL ch)) true, .dat (.dict kvs) true, .dat (natD i) false, s6, s7, .no, s9] = .ok (decide (i < ch.length)) := by
      have e : decide ((i : Int) < (ch.length : Int)) = decide (i < ch.length) := decide_eq_decide.mpr Int.ofNat_lt
      generalize pvD P = PD at *
      generalize chL ch = CH at *
      simp [wT, natD, hlen, -lenD_list]
    have hb : (match ch[i]? with | none => some none | some c => if t ∈ low P U (lastN c) then some (some c) else bfs P U t f (i + 1) (stepC P U c ch)) = some r := hb
    cases hx : ch[i]? with
    | none =>
      rw [hx] at hb
      injection hb with hb
      right
      have hi : ¬ i < ch.length := by
        intro z
        rw [List.getElem?_eq_getElem z] at hx
        cases hx
      rw [decide_eq_false hi] at htest
      refine ⟨hb.symm, [.dat (pvD P) false, .dat (nsD U) false, .dat (natD t) false, .dat (.list (chL ch)) true, .dat (.dict kvs) true, .dat (natD i) false, s6, s7, .no, s9], ?_⟩
      show (match wT _ with | .ok true => _ | .ok false => Fw.nx _ | .exc n ds => _ | .bad => _) = _
      rw [htest]
    | some c =>
      rw [hx] at hb
      obtain ⟨hi, _⟩ := List.getElem?_eq_some_iff.mp hx
      have hc := List.mem_of_getElem? hx
      have hcw := h.w c hc
      rw [decide_eq_true hi] at htest
      have hcl2 := hl c hc
      rcases u_ring_body Φ P U t hP ch (by omega) kvs hs (by omega) i c hx hcw.pos (by omega) s6 s7 s9 c9 with ⟨b1, b2⟩ | ⟨b1, kvs', s6', s7', s9', b2, b3, b4, b5⟩
      · left
        have hb : (if t ∈ low P U (lastN c) then some (some c) else bfs P U t f (i + 1) (stepC P U c ch)) = some r := hb
        rw [if_pos b1] at hb
        injection hb with hb
        refine ⟨c, hb.symm, ?_⟩
        show (match wT _ with | .ok true => (match wB Φ _ with | .nx ρ' => _ | .ct ρ' => _ | .bk ρ' => _ | r => r) | .ok false => _ | .exc n ds => _ | .bad => _) = _
        rw [htest]
        show (match wB Φ _ with | .nx ρ' => _ | .ct ρ' => _ | .bk ρ' => _ | r => r) = _
        rw [b2]
      · have hb : (if t ∈ low P U (lastN c) then some (some c) else bfs P U t f (i + 1) (stepC P U c ch)) = some r := hb
        rw [if_neg b1] at hb
        obtain ⟨h1, K, h2, h3⟩ := fold_addC (low P U (lastN c)) ch h hc fun l hl => hl
        have hgo : whileL wT (wB Φ) (wn + 1) [.dat (pvD P) false, .dat (nsD U) false, .dat (natD t) false, .dat (.list (chL ch)) true, .dat (.dict kvs) true, .dat (natD i) false, s6, s7, .no, s9] = whileL wT (wB Φ) wn [.dat (pvD P) false, .dat (nsD U) false, .dat (natD t) false, .dat (.list (chL (stepC P U c ch))) true, .dat (.dict kvs') true, .dat (natD (i + 1)) false, s6', s7', .no, s9'] := by
          show (match wT _ with | .ok true => (match wB Φ _ with | .nx ρ' => whileL wT (wB Φ) wn ρ' | .ct ρ' => _ | .bk ρ' => _ | r => r) | .ok false => _ | .exc n ds => _ | .bad => _) = _
          rw [htest]
          show (match wB Φ _ with | .nx ρ' => whileL wT (wB Φ) wn ρ' | .ct ρ' => _ | .bk ρ' => _ | r => r) = _
          rw [b2]
        rw [hgo]
        exact while_ring Φ g hP f wn (i + 1) (stepC P U c ch) kvs' s6' s7' s9' r hb (by omega) h1 (by
          intro d hd
          have hd : d ∈ (low P U (lastN c)).foldl (addC c) ch := hd
          rw [h2] at hd
          rcases List.mem_append.mp hd with hd | hd
          · have := hl d hd
            omega
          · obtain ⟨l, _, rfl⟩ := h3 d hd
            rw [List.length_append]
            simp
            omega) b3 (by omega) b5
end Pv.K44


namespace Pv.K44
open PySem PySem.Spec L2
open PyProof.Rows hiding St

/-! ### ring_of -/
def ringB (P : List NP) (U : List Nat) (t : Nat) : Option (List Nat) := (bfs P U t 17 0 [[t]]).getD none
theorem ring_ex {P : List NP} {U : List Nat} {t j : Nat} (h1 : 1 ≤ j) (h2 : Wk P U t j t) : ∃ D, Ring P U t D ∧ D ≤ j := by
  obtain ⟨i, a, b, c⟩ := least_of (p := fun j => 1 ≤ j ∧ Wk P U t j t) ⟨h1, h2⟩
  exact ⟨i, ⟨b.1, b.2, fun k hk1 hk2 hw => c k hk2 ⟨hk1, hw⟩⟩, a⟩
theorem chs_0 {n : Nat} {P : List NP} {U : List Nat} {t : Nat} : Chs n P U t [[t]] := ⟨fun c hc => by rw [List.mem_singleton.mp hc]; exact IsW.base, by simp⟩
theorem bfs_is {n : Nat} {P : List NP} {U : List Nat} {t : Nat} (g : Gr n P U t) : (∃ D, Ring P U t D ∧ bfs P U t 17 0 [[t]] = some (some (grd P U t D (D - 1)))) ∨ ((∀ j, 1 ≤ j → ¬ Wk P U t j t) ∧ bfs P U t 17 0 [[t]] = some none) := by
  by_cases h : ∃ j, 1 ≤ j ∧ Wk P U t j t
  · obtain ⟨j, h1, h2⟩ := h
    obtain ⟨D, r, _⟩ := ring_ex h1 h2
    exact .inl ⟨D, r, bfs_ring g r 17 0 0 [] [] [[t]] chs_0 rfl r.pos (by simp) (by simp) (by simp) (by simp) (by decide)⟩
  · have no : ∀ j, 1 ≤ j → ¬ Wk P U t j t := fun j hj hw => h ⟨j, hj, hw⟩
    exact .inr ⟨no, bfs_none g no 17 0 [[t]] chs_0 (by simp) (by decide)⟩
theorem ringB_is {n : Nat} {P : List NP} {U : List Nat} {t : Nat} (g : Gr n P U t) : (∃ D, Ring P U t D ∧ ringB P U t = some (grd P U t D (D - 1))) ∨ ((∀ j, 1 ≤ j → ¬ Wk P U t j t) ∧ ringB P U t = none) := by
  rcases bfs_is g with ⟨D, r, e⟩ | ⟨no, e⟩
  · exact .inl ⟨D, r, by unfold ringB; rw [e]; rfl⟩
  · exact .inr ⟨no, by unfold ringB; rw [e]; rfl⟩
def opD : Option (List Nat) → PyData
  | some c => nlD c
  | none => .none
theorem v_ring_from (k : Nat) {n : Nat} {P : List NP} {U : List Nat} {t : Nat} (g : Gr n P U t) (hP : P.length ≤ 100) : Ev (k + 1) f_ring_from [pvD P, nsD U, natD t] = .ok (opD (ringB P U t)) := by
  refine (e_ring_from k _).trans ?_
  generalize Ev k = Φ
  obtain ⟨r, hr⟩ : ∃ r, bfs P U t 17 0 [[t]] = some r := by
    rcases bfs_is g with ⟨D, _, e⟩ | ⟨_, e⟩ <;> exact ⟨_, e⟩
  have er : ringB P U t = r := by unfold ringB; rw [hr]; rfl
  rw [er]
  have hs : SeenN [(.int (t : Int), .bool true)] [[t]] := by
    refine (DcN.nil.put t (.bool true)).congr fun x => ?_
    by_cases h : x = t
    · subst h; simp [lastN]
    · simp [h, lastN]
  have hw := while_ring Φ g hP 17 WN 0 [[t]] [(.int (t : Int), .bool true)] .no .no .no r hr (by decide) chs_0 (by simp) hs (by simp) cl_no
  rw [run_of (ρ := [.dat (pvD P) false, .dat (nsD U) false, .dat (natD t) false, .no, .no, .no, .no, .no, .no, .no]) rfl rfl]
  unfold t_ring_from
  rw [seq_nx (ρ' := [.dat (pvD P) false, .dat (nsD U) false, .dat (natD t) false, .dat (.list (chL [[t]])) true, .no, .no, .no, .no, .no, .no]) (by
    generalize pvD P = PD
    generalize nsD U = UD
    simp [natD, chL, nlD])]
  rw [seq_nx (ρ' := [.dat (pvD P) false, .dat (nsD U) false, .dat (natD t) false, .dat (.list (chL [[t]])) true, .dat (.dict [(.int (t : Int), .bool true)]) true, .no, .no, .no, .no, .no]) (by
    have ak : allK [((.int (t : Int) : PyData), (.bool true : PyData))] = true := rfl
    have pk : putK1 [] ((.int (t : Int) : PyData), (.bool true : PyData)) = [(.int (t : Int), .bool true)] := rfl
    generalize pvD P = PD
    generalize nsD U = UD
    generalize chL [[t]] = CH
    simp [natD, ak, pk])]
  rw [seq_nx (ρ' := [.dat (pvD P) false, .dat (nsD U) false, .dat (natD t) false, .dat (.list (chL [[t]])) true, .dat (.dict [(.int (t : Int), .bool true)]) true, .dat (natD 0) false, .no, .no, .no, .no]) (by
    generalize pvD P = PD
    generalize nsD U = UD
    generalize chL [[t]] = CH
    simp [natD])]
  show endC (sSeq (whileL wT (wB Φ) WN) (sSeq (disow [] (sRet (cK .none))) (sNx)) [.dat (pvD P) false, .dat (nsD U) false, .dat (natD t) false, .dat (.list (chL [[t]])) true, .dat (.dict [(.int (t : Int), .bool true)]) true, .dat (natD 0) false, .no, .no, .no, .no]) = _
  rcases hw with ⟨c, rfl, hw⟩ | ⟨rfl, ρ', hw⟩
  · rw [seq_rt hw]
    rfl
  · rw [seq_nx hw]
    simp [opD]
/-- the best one so far -/
def bst (P : List NP) (U : List Nat) (b : Option (List Nat)) (t : Nat) : Option (List Nat) := match ringB P U t with
  | none => b
  | some c => match b with
    | none => some c
    | some d => if c.length < d.length then some c else some d
def best (P : List NP) (U : List Nat) : Option (List Nat) := U.foldl (bst P U) none
theorem v_ring_of (k n : Nat) (hn : n ≤ 16) (P : List NP) (ha : AscA leN P) (hP : P.length ≤ 100) : Ev (k + 4) f_ring_of [.int n, pvD P] = .ok (opD (best P (unsL n (St n P)))) := by
  refine (e_ring_of (k + 3) _).trans ?_
  have h1 := v_unsettled k n hn P
  have hU : ∀ u ∈ unsL n (St n P), u < n := by
    intro u hu
    have := (List.mem_filter.mp hu).1
    simpa using this
  have h2 : ∀ t ∈ unsL n (St n P), Ev (k + 3) f_ring_from [pvD P, nsD (unsL n (St n P)), natD t] = .ok (opD (ringB P (unsL n (St n P)) t)) := fun t ht => v_ring_from (k + 2) ⟨hn, ht, hU, ha⟩ hP
  generalize unsL n (St n P) = U at *
  generalize Ev (k + 3) = Φ at *
  rw [run_of (ρ := [.dat (.int n) false, .dat (pvD P) false, .no, .no, .no, .no]) rfl rfl]
  unfold t_ring_of
  rw [seq_nx (ρ' := [.dat (.int n) false, .dat (pvD P) false, .dat (nsD U) false, .no, .no, .no]) (by
    generalize pvD P = PD at *
    generalize nsD U = UD at *
    simp [h1])]
  rw [seq_nx (ρ' := [.dat (.int n) false, .dat (pvD P) false, .dat (nsD U) false, .dat .none false, .no, .no]) (by simp)]
  obtain ⟨ρ', g1, y4, y5, rfl⟩ := forL_inv natD (fun done ρ => ∃ y4 y5, ρ = [.dat (.int n) false, .dat (pvD P) false, .dat (nsD U) false, .dat (opD (done.foldl (bst P U) none)) false, y4, y5]) (i := 4) (b := b_ring_of_0 Φ) U (by
    rintro done t rest ρ e ⟨y4, y5, rfl⟩
    have a := h2 t (by rw [e]; simp)
    refine ⟨_, .inl (?_ : b_ring_of_0 Φ [.dat (.int n) false, .dat (pvD P) false, .dat (nsD U) false, .dat (opD (done.foldl (bst P U) none)) false, .dat (natD t) false, y5] = .nx [.dat (.int n) false, .dat (pvD P) false, .dat (nsD U) false, .dat (opD (bst P U (done.foldl (bst P U) none) t)) false, .dat (natD t) false, .dat (opD (ringB P U t)) false]), .dat (natD t) false, .dat (opD (ringB P U t)) false, by rw [List.foldl_append]; rfl⟩
    generalize done.foldl (bst P U) none = b
    unfold bst
    generalize ringB P U t = rr at *
    have hnn : ∀ c : List Nat, isNoneD (nlD c) = false := fun c => rfl
    have hll : ∀ c : List Nat, lenD (nlD c) = .ok (.int c.length) := fun c => by show R.ok (PyData.int ((c.map natD).length : Nat)) = _; rw [List.length_map]
    generalize pvD P = PD at *
    generalize nsD U = UD at *
    cases rr with
    | none =>
      have a : Φ f_ring_from [PD, UD, natD t] = .ok .none := a
      have e : opD none = .none := rfl
      rw [e]
      simp [b_ring_of_0, a]
    | some c =>
      have a : Φ f_ring_from [PD, UD, natD t] = .ok (nlD c) := a
      have e : opD (some c) = nlD c := rfl
      have l1 := hll c
      have n1 := hnn c
      rw [e]
      cases b with
      | none =>
        have e2 : opD none = .none := rfl
        show _ = Fw.nx [_, _, _, .dat (opD (some c)) false, _, _]
        rw [e, e2]
        generalize nlD c = C at *
        simp [b_ring_of_0, a, n1]
      | some d =>
        have e2 : opD (some d) = nlD d := rfl
        have l2 := hll d
        have n2 := hnn d
        have ed : decide ((c.length : Int) < (d.length : Int)) = decide (c.length < d.length) := decide_eq_decide.mpr Int.ofNat_lt
        show _ = Fw.nx [_, _, _, .dat (opD (if c.length < d.length then some c else some d)) false, _, _]
        by_cases hc : c.length < d.length
        · rw [if_pos hc, e, e2]
          rw [decide_eq_true hc] at ed
          have hc' : (c.length : Int) < d.length := of_decide_eq_true ed
          generalize nlD c = C at *
          generalize nlD d = Dd at *
          simp [b_ring_of_0, a, n1, n2, l1, l2, hc]
        · rw [if_neg hc, e2]
          have hc' : ¬ (c.length : Int) < d.length := by omega
          generalize nlD c = C at *
          generalize nlD d = Dd at *
          simp [b_ring_of_0, a, n1, n2, l1, l2, hc]) (ρ := [.dat (.int n) false, .dat (pvD P) false, .dat (nsD U) false, .dat .none false, .no, .no]) ⟨.no, .no, rfl⟩
  have s2 : disow [2] (sFor (cItE (cVar 2)) (.one 4) (b_ring_of_0 Φ)) [.dat (.int n) false, .dat (pvD P) false, .dat (nsD U) false, .dat .none false, .no, .no] = .nx [.dat (.int n) false, .dat (pvD P) false, .dat (nsD U) false, .dat (opD (U.foldl (bst P U) none)) false, y4, y5] := by
    rw [disow_ap]
    refine for_nx ?_ g1
    have ei : itD (nsD U) = .ok (U.map natD) := rfl
    show cItE (cVar 2) [.dat (.int n) false, .dat (pvD P) false, .dat (nsD U) false, .dat .none false, .no, .no] = _
    generalize pvD P = PD at *
    generalize nsD U = UD at *
    simp [ei]
  rw [seq_nx s2]
  unfold best
  generalize opD (U.foldl (bst P U) none) = O at *
  generalize pvD P = PD at *
  generalize nsD U = UD at *
  simp
end Pv.K44


namespace Pv.K44
open PySem PySem.Spec L2
open PyProof.Rows hiding St

/-! ### the law's distances -/
def gD (U : List Nat) (f : Nat → Option Nat) (r : Nat) (Q : List NP) : Nat → Option Nat := fun v => match f v with
  | some k => some k
  | none => if stepB Q U f r v = true then some (r + 1) else none
theorem stepB_app (Q : List NP) (p : NP) (U : List Nat) (f : Nat → Option Nat) (r v : Nat) : stepB (Q ++ [p]) U f r v = (stepB Q U f r v || (decide (v ∈ U) && (decide (p.1 = v) && decide (f p.2 = some r)))) := by
  unfold stepB
  rw [List.any_append, Bool.and_or_distrib_left]
  simp
theorem gD_at {U : List Nat} {f : Nat → Option Nat} {r : Nat} {Q : List NP} (x : Nat) : gD U f r Q x = some r ↔ f x = some r := by
  unfold gD
  cases f x with
  | some k => exact Iff.rfl
  | none =>
    show (if stepB Q U f r x = true then some (r + 1) else none) = some r ↔ _
    constructor
    · intro h
      split at h
      · injection h with h; omega
      · cases h
    · intro h; cases h
theorem gD_step (U : List Nat) (f : Nat → Option Nat) (r : Nat) (Q : List NP) (p : NP) (x : Nat) : gD U f r (Q ++ [p]) x = if p.1 ∈ U ∧ gD U f r Q p.1 = none ∧ f p.2 = some r then (if x = p.1 then some (r + 1) else gD U f r Q x) else gD U f r Q x := by
  unfold gD
  cases hx : f x with
  | some k =>
    by_cases hc : p.1 ∈ U ∧ (match f p.1 with | some k => some k | none => if stepB Q U f r p.1 = true then some (r + 1) else none) = none ∧ f p.2 = some r
    · rw [if_pos hc]
      by_cases e : x = p.1
      · subst e
        rw [hx] at hc
        cases hc.2.1
      · rw [if_neg e]
    · rw [if_neg hc]
  | none =>
    show (if stepB (Q ++ [p]) U f r x = true then some (r + 1) else none) = _
    rw [stepB_app]
    by_cases e : p.1 = x
    · subst e
      rw [hx]
      cases hs : stepB Q U f r p.1 with
      | true => simp
      | false =>
        by_cases h1 : p.1 ∈ U
        · by_cases h2 : f p.2 = some r
          · simp [h1, h2]
          · simp [h1, h2]
        · simp [h1]
    · have e' : ¬ x = p.1 := fun z => e z.symm
      simp [e, e']
theorem u_dist_body (Φ : Ph) (U : List Nat) (g : Nat → Option Nat) (r : Nat) (kvs : List (PyData × PyData)) (h : DcN kvs fun v => (g v).map natD) (hk : kvs.length ≤ 10000) (p : NP) (s0 s2 : Sl) :
    ∃ kvs', b__law_distances_0 Φ [s0, .dat (nlD U) false, s2, .dat (.dict kvs) true, .dat (natD r) false, .dat (prN p) false] = .nx [s0, .dat (nlD U) false, s2, .dat (.dict kvs') true, .dat (natD r) false, .dat (prN p) false] ∧ (DcN kvs' fun v => (if p.1 ∈ U ∧ g p.1 = none ∧ g p.2 = some r then (if v = p.1 then some (r + 1) else g v) else g v).map natD) ∧ kvs'.length ≤ kvs.length + 1 := by
  have a1 : ixD (prN p) (.int 1) = .ok (natD p.2) := ixT_1 ..
  have a0 : ixD (prN p) (.int 0) = .ok (natD p.1) := ixT_0 ..
  have i1 := (in_nats p.1 U).2
  have i2 := h.notIn p.1
  have i2 : notInD (natD p.1) (.dict kvs) = .ok (.bool (!((g p.1).map natD).isSome)) := i2
  have eU : nlD U = .list (U.map natD) := rfl
  rw [← eU] at i1
  by_cases h1 : p.1 ∈ U
  · rw [decide_eq_true h1] at i1
    cases h2 : g p.1 with
    | some k =>
      rw [h2] at i2
      have i2 : notInD (natD p.1) (.dict kvs) = .ok (.bool false) := i2
      refine ⟨kvs, ?_, h.congr fun v => by rw [if_neg (by simp)], by omega⟩
      generalize nlD U = UD at *
      generalize prN p = Y at *
      generalize natD p.1 = X1 at *
      simp [b__law_distances_0, a0, i1, i2]
    | none =>
      rw [h2] at i2
      have i2 : notInD (natD p.1) (.dict kvs) = .ok (.bool true) := i2
      have hg : cGet2 (cVarB 3) (c2 ixD (cVarB 5) (cK (.int 1))) (c1 negD (cK (.int 1))) [s0, .dat (nlD U) false, s2, .dat (.dict kvs) true, .dat (natD r) false, .dat (prN p) false] = .ok (((g p.2).map natD).getD (.int (-1))) := h.get2 (by simp) (by
        generalize prN p = Y at *
        generalize nlD U = UD
        have a1' : ixD Y (.int 1) = .ok (.int p.2) := a1
        simp [a1']) (by simp)
      have he : eqD (((g p.2).map natD).getD (.int (-1))) (natD r) = .ok (.bool (decide (g p.2 = some r))) := by
        cases hg2 : g p.2 with
        | none =>
          show eqD (.int (-1)) (.int r) = _
          rw [eqD_int]
          congr 2
        | some k =>
          show eqD (.int k) (.int r) = _
          rw [eqD_int]
          congr 2
          apply decide_eq_decide.mpr
          constructor
          · intro z
            have : k = r := by omega
            rw [this]
          · intro z
            have : k = r := by injection z
            rw [this]
      by_cases h3 : g p.2 = some r
      · rw [decide_eq_true h3] at he
        refine ⟨putG keyK kD (.inl (p.1 : Int)) (natD (r + 1)) kvs, ?_, ?_, putG_len ..⟩
        · have hp := h.sput (i := 3) (cj := c2 ixD (cVarB 5) (cK (.int 0))) (c := c2 addD (cVarB 4) (cK (.int 1))) (ρ := [s0, .dat (nlD U) false, s2, .dat (.dict kvs) true, .dat (natD r) false, .dat (prN p) false]) (m := p.1) (v := natD (r + 1)) rfl (by
            generalize nlD U = UD
            generalize prN p = Y at *
            have a0' : ixD Y (.int 0) = .ok (.int p.1) := a0
            simp [a0']) (by
            generalize nlD U = UD
            generalize prN p = Y at *
            simp [natD]) (by omega)
          have s3 : disow [] (sPut 3 (c2 ixD (cVarB 5) (cK (.int 0))) (c2 addD (cVarB 4) (cK (.int 1)))) [s0, .dat (nlD U) false, s2, .dat (.dict kvs) true, .dat (natD r) false, .dat (prN p) false] = .nx [s0, .dat (nlD U) false, s2, .dat (.dict (putG keyK kD (.inl (p.1 : Int)) (natD (r + 1)) kvs)) true, .dat (natD r) false, .dat (prN p) false] := by
            rw [disow_ap, disL_nil]
            exact hp
          have ht : cAndT (cTst (c2 inD (c2 ixD (cVarB 5) (cK (.int 0))) (cVarB 1))) (cAndT (cTst (c2 notInD (c2 ixD (cVarB 5) (cK (.int 0))) (cVarB 3))) (cTst (c2 eqD (cGet2 (cVarB 3) (c2 ixD (cVarB 5) (cK (.int 1))) (c1 negD (cK (.int 1)))) (cVarB 4)))) [s0, .dat (nlD U) false, s2, .dat (.dict kvs) true, .dat (natD r) false, .dat (prN p) false] = .ok true := by
            generalize hgg : cGet2 (cVarB 3) (c2 ixD (cVarB 5) (cK (.int 1))) (c1 negD (cK (.int 1))) = gg at *
            generalize ((g p.2).map natD).getD (.int (-1)) = Z at *
            generalize nlD U = UD at *
            generalize prN p = Y at *
            generalize natD p.1 = X1 at *
            generalize natD r = RD at *
            simp [a0, i1, i2, hg, he]
          unfold b__law_distances_0
          rw [sSeq_ap, sIf_ap, ht]
          show (match sSeq _ sNx _ with | .nx ρ' => sNx ρ' | r => r) = _
          rw [seq_nx s3]
          rfl
        · refine (h.put p.1 (natD (r + 1))).congr fun x => ?_
          by_cases hx : x = p.1
          · simp [hx, h1, h3]
          · simp [hx, h1, h3]
      · rw [decide_eq_false h3] at he
        refine ⟨kvs, ?_, h.congr fun v => by rw [if_neg (fun z => h3 z.2.2)], by omega⟩
        have ht : cAndT (cTst (c2 inD (c2 ixD (cVarB 5) (cK (.int 0))) (cVarB 1))) (cAndT (cTst (c2 notInD (c2 ixD (cVarB 5) (cK (.int 0))) (cVarB 3))) (cTst (c2 eqD (cGet2 (cVarB 3) (c2 ixD (cVarB 5) (cK (.int 1))) (c1 negD (cK (.int 1)))) (cVarB 4)))) [s0, .dat (nlD U) false, s2, .dat (.dict kvs) true, .dat (natD r) false, .dat (prN p) false] = .ok false := by
          generalize hgg : cGet2 (cVarB 3) (c2 ixD (cVarB 5) (cK (.int 1))) (c1 negD (cK (.int 1))) = gg at *
          generalize ((g p.2).map natD).getD (.int (-1)) = Z at *
          generalize nlD U = UD at *
          generalize prN p = Y at *
          generalize natD p.1 = X1 at *
          generalize natD r = RD at *
          simp [a0, i1, i2, hg, he]
        unfold b__law_distances_0
        rw [sSeq_ap, sIf_ap, ht]
        rfl
  · rw [decide_eq_false h1] at i1
    refine ⟨kvs, ?_, h.congr fun v => by rw [if_neg (fun z => h1 z.1)], by omega⟩
    generalize nlD U = UD at *
    generalize prN p = Y at *
    generalize natD p.1 = X1 at *
    simp [b__law_distances_0, a0, i1]
theorem v__law_distances (k : Nat) (P : List NP) (U : List Nat) (t : Nat) (hP : P.length ≤ 100) : ∃ kvs, Ev (k + 1) f__law_distances [pvD P, nlD U, natD t] = .ok (.dict kvs) ∧ DcN kvs fun v => (far P U t v).map natD := by
  suffices hs : ∃ kvs, runC (t__law_distances (Ev k)) N__law_distances P__law_distances [pvD P, nlD U, natD t] = .ok (.dict kvs) ∧ DcN kvs fun v => (far P U t v).map natD by
    obtain ⟨kvs, h1, h2⟩ := hs
    exact ⟨kvs, (e__law_distances k _).trans h1, h2⟩
  generalize Ev k = Φ
  have h0 : DcN [((.int (t : Int) : PyData), (.int 0 : PyData))] fun v => (fD P U t 0 v).map natD := by
    refine (DcN.nil.put t (.int 0)).congr fun x => ?_
    by_cases h : x = t
    · subst h; simp [fD, natD]
    · simp [h, fD]
  obtain ⟨ρ', g1, kvs, y4, y5, rfl, d1, d2⟩ := forL_inv natD (fun done ρ => ∃ kvs y4 y5, ρ = [.dat (pvD P) false, .dat (nlD U) false, .dat (natD t) false, .dat (.dict kvs) true, y4, y5] ∧ (DcN kvs fun v => (fD P U t done.length v).map natD) ∧ kvs.length ≤ 1 + 100 * done.length) (i := 4) (b := b__law_distances_1 Φ) (List.range 16) (by
    rintro done r rest ρ e ⟨kvs, y4, y5, rfl, d1, d2⟩
    obtain ⟨hj, rfl⟩ := range_at e
    obtain ⟨ρ', g2, kvs', y5', rfl, d3, d4⟩ := forL_inv prN (fun dn ρ => ∃ kvs' y5, ρ = [.dat (pvD P) false, .dat (nlD U) false, .dat (natD t) false, .dat (.dict kvs') true, .dat (natD done.length) false, y5] ∧ (DcN kvs' fun v => (gD U (fD P U t done.length) done.length dn v).map natD) ∧ kvs'.length ≤ kvs.length + dn.length) (i := 5) (b := b__law_distances_0 Φ) P (by
      rintro dn p rest ρ e2 ⟨kvs', y5, rfl, d3, d4⟩
      have hdl : dn.length ≤ 100 := by
        have := congrArg List.length e2
        rw [List.length_append, List.length_cons] at this
        omega
      obtain ⟨kvs2, q1, q2, q3⟩ := u_dist_body Φ U _ done.length kvs' d3 (by omega) p (.dat (pvD P) false) (.dat (natD t) false)
      refine ⟨_, .inl q1, kvs2, _, rfl, q2.congr fun x => ?_, by rw [List.length_append]; simp; omega⟩
      rw [gD_step]
      congr 1
      simp only [gD_at]) (ρ := [.dat (pvD P) false, .dat (nlD U) false, .dat (natD t) false, .dat (.dict kvs) true, .dat (natD done.length) false, y5]) ⟨kvs, y5, rfl, d1.congr fun x => by
        unfold gD
        cases fD P U t done.length x with
        | some k => rfl
        | none => simp [stepB], by simp⟩
    refine ⟨_, .inl (?_ : b__law_distances_1 Φ [.dat (pvD P) false, .dat (nlD U) false, .dat (natD t) false, .dat (.dict kvs) true, .dat (natD done.length) false, y5] = .nx [.dat (pvD P) false, .dat (nlD U) false, .dat (natD t) false, .dat (.dict kvs') true, .dat (natD done.length) false, y5']), kvs', _, _, rfl, ?_, ?_⟩
    · have s : disow [0] (sFor (cItE (cVar 0)) (.one 5) (b__law_distances_0 Φ)) [.dat (pvD P) false, .dat (nlD U) false, .dat (natD t) false, .dat (.dict kvs) true, .dat (natD done.length) false, y5] = .nx [.dat (pvD P) false, .dat (nlD U) false, .dat (natD t) false, .dat (.dict kvs') true, .dat (natD done.length) false, y5'] := by
        rw [disow_ap]
        refine for_nx ?_ g2
        have ei : itD (pvD P) = .ok (P.map prN) := rfl
        show cItE (cVar 0) [.dat (pvD P) false, .dat (nlD U) false, .dat (natD t) false, .dat (.dict kvs) true, .dat (natD done.length) false, y5] = _
        generalize pvD P = PD at *
        generalize nlD U = UD at *
        simp [ei]
      unfold b__law_distances_1
      rw [seq_nx s]
      rfl
    · rw [List.length_append]
      exact d3.congr fun x => rfl
    · rw [List.length_append]
      simp
      omega) (ρ := [.dat (pvD P) false, .dat (nlD U) false, .dat (natD t) false, .dat (.dict [(.int (t : Int), .int 0)]) true, .no, .no]) ⟨_, .no, .no, rfl, h0, by simp⟩
  rw [List.length_range] at d1
  refine ⟨kvs, ?_, d1⟩
  rw [run_of (ρ := [.dat (pvD P) false, .dat (nlD U) false, .dat (natD t) false, .no, .no, .no]) rfl rfl]
  unfold t__law_distances
  rw [seq_nx (ρ' := [.dat (pvD P) false, .dat (nlD U) false, .dat (natD t) false, .dat (.dict [(.int (t : Int), .int 0)]) true, .no, .no]) (by
    have ak : allK [((.int (t : Int) : PyData), (.int 0 : PyData))] = true := rfl
    have pk : putK1 [] ((.int (t : Int) : PyData), (.int 0 : PyData)) = [(.int (t : Int), .int 0)] := rfl
    generalize pvD P = PD
    generalize nlD U = UD
    simp [natD, ak, pk])]
  have hr := cRange1_nat (n := 16) (a := cK (.int 16)) (ρ := [.dat (pvD P) false, .dat (nlD U) false, .dat (natD t) false, .dat (.dict [(.int (t : Int), .int 0)]) true, .no, .no]) rfl (by decide)
  rw [seq_nx (for_nx0 hr g1)]
  generalize pvD P = PD
  generalize nlD U = UD
  simp
end Pv.K44


namespace Pv.K44
open PySem PySem.Spec L2
open PyProof.Rows hiding St

/-! ### the law's ring -/
def lensL (P : List NP) (U : List Nat) (t : Nat) : List Nat := (P.filter fun p => decide (p.1 = t) && (far P U t p.2).isSome).map fun p => (far P U t p.2).getD 0 + 1
theorem mem_lens {P : List NP} {U : List Nat} {t x : Nat} : x ∈ lensL P U t ↔ ∃ l j, (t, l) ∈ P ∧ far P U t l = some j ∧ x = j + 1 := by
  unfold lensL
  rw [List.mem_map]
  constructor
  · rintro ⟨p, hp, rfl⟩
    obtain ⟨h1, h2⟩ := List.mem_filter.mp hp
    rw [Bool.and_eq_true, decide_eq_true_iff] at h2
    obtain ⟨rfl, h3⟩ := h2
    obtain ⟨j, hj⟩ := Option.isSome_iff_exists.mp h3
    exact ⟨p.2, j, h1, hj, by rw [hj]; rfl⟩
  · rintro ⟨l, j, h1, h2, rfl⟩
    exact ⟨(t, l), List.mem_filter.mpr ⟨h1, by simp [h2]⟩, by simp [h2]⟩
/-- the least length, or 99 -/
theorem lens_min {n : Nat} {P : List NP} {U : List Nat} {t : Nat} (g : Gr n P U t) : (∃ D, Ring P U t D ∧ D < 99 ∧ minLD (.list ((lensL P U t).map natD ++ [.int 99])) = .ok (natD D)) ∨ ((∀ j, 1 ≤ j → ¬ Wk P U t j t) ∧ minLD (.list ((lensL P U t).map natD ++ [.int 99])) = .ok (.int 99)) := by
  have e : (lensL P U t).map natD ++ [.int 99] = ((lensL P U t).map Int.ofNat ++ [99]).map .int := by
    rw [List.map_append, List.map_map]; rfl
  rw [e]
  by_cases h : ∃ j, 1 ≤ j ∧ Wk P U t j t
  · left
    obtain ⟨j, h1, h2⟩ := h
    obtain ⟨D, r, _⟩ := ring_ex h1 h2
    have hD : D ∈ lensL P U t := by
      have hw := r.wk
      obtain ⟨d, rfl⟩ : ∃ d, D = d + 1 := ⟨D - 1, by have := r.pos; omega⟩
      obtain ⟨_, l, hl, hw⟩ := hw
      obtain ⟨i, a, b⟩ := fD_all g.few g.hU g.ht hw
      by_cases hi : i = d
      · subst hi
        exact mem_lens.mpr ⟨l, i, hl, b, rfl⟩
      · exact absurd (show Wk P U t (i + 1) t from ⟨g.ht, l, hl, (far_some b).2.1⟩) (r.min (i + 1) (by omega) (by omega))
    have hmin : ∀ x ∈ lensL P U t, D ≤ x ∧ x ≤ 17 := by
      intro x hx
      obtain ⟨l, i, hl, b, rfl⟩ := mem_lens.mp hx
      obtain ⟨b1, b2, _⟩ := far_some b
      refine ⟨?_, by omega⟩
      by_cases hlt : i + 1 < D
      · exact absurd (show Wk P U t (i + 1) t from ⟨g.ht, l, hl, b2⟩) (r.min (i + 1) (by omega) hlt)
      · omega
    have h17 := (hmin D hD).2
    refine ⟨D, r, by omega, minLD_is ?_ ?_⟩
    · intro x hx
      rcases List.mem_append.mp hx with hx | hx
      · obtain ⟨y, hy, rfl⟩ := List.mem_map.mp hx
        have := (hmin y hy).1
        show (D : Int) ≤ (y : Int)
        omega
      · rw [List.mem_singleton.mp hx]
        omega
    · exact List.mem_append_left _ (List.mem_map.mpr ⟨D, hD, rfl⟩)
  · right
    have no : ∀ j, 1 ≤ j → ¬ Wk P U t j t := fun j hj hw => h ⟨j, hj, hw⟩
    refine ⟨no, minLD_is ?_ ?_⟩
    · intro x hx
      rcases List.mem_append.mp hx with hx | hx
      · obtain ⟨y, hy, rfl⟩ := List.mem_map.mp hx
        obtain ⟨l, i, hl, b, rfl⟩ := mem_lens.mp hy
        exact absurd (show Wk P U t (i + 1) t from ⟨g.ht, l, hl, (far_some b).2.1⟩) (no (i + 1) (by omega))
      · rw [List.mem_singleton.mp hx]
        exact Int.le_refl _
    · exact List.mem_append_right _ (by simp)
def optL : Option (List Nat) → List Nat
  | some c => c
  | none => []
/-- one more number of the ring -/
theorem u_lring_0 (Φ : Ph) {n : Nat} {P : List NP} {U : List Nat} {t : Nat} (g : Gr n P U t) {D : Nat} (r : Ring P U t D) (hP : P.length ≤ 100) (kvs : List (PyData × PyData)) (h : DcN kvs fun v => (far P U t v).map natD) (k : Nat) (hk : k + 2 ≤ D) (hD : D ≤ 1000) (s1 s3 s5 s9 s10 : Sl) :
    ∃ s9' s10', b__law_ring_0 Φ [.dat (pvD P) false, s1, .dat (nlD (grd P U t D k)) true, s3, .dat (.dict kvs) false, s5, .no, .dat (natD D) false, .dat (natD k) false, s9, s10] = .nx [.dat (pvD P) false, s1, .dat (nlD (grd P U t D (k + 1))) true, s3, .dat (.dict kvs) false, s5, .no, .dat (natD D) false, .dat (natD k) false, s9', s10'] := by
  obtain ⟨g1, g2, g3⟩ := grd_ok g r k (by omega)
  obtain ⟨f1, f2⟩ := grd_far g r k hk
  have hla := last_nl (c := grd P U t D k) (by omega)
  have hdk : ((D : Int) - 1 - (k : Int)) = ((D - 1 - k : Nat) : Int) := by omega
  have hq := compL_on prN (fun p => decide (p.1 = lastN (grd P U t D k)) && decide (far P U t p.2 = some (D - 1 - k))) (fun p => natD p.2) (i := 6) (t := q__law_ring_1 Φ) (e := c__law_ring_1 Φ) (ρ := [.dat (pvD P) false, s1, .dat (nlD (grd P U t D k)) true, s3, .dat (.dict kvs) false, s5, .no, .dat (natD D) false, .dat (natD k) false, .dat (natD (D - 1 - k)) false, s10]) (l := P) (by
    intro p _
    have a1 : ixD (prN p) (.int 1) = .ok (natD p.2) := ixT_1 ..
    have a0 : ixD (prN p) (.int 0) = .ok (natD p.1) := ixT_0 ..
    have hg : cGet2 (cVarB 4) (c2 ixD (cVarB 6) (cK (.int 1))) (c1 negD (cK (.int 1))) [.dat (pvD P) false, s1, .dat (nlD (grd P U t D k)) true, s3, .dat (.dict kvs) false, s5, .dat (prN p) false, .dat (natD D) false, .dat (natD k) false, .dat (natD (D - 1 - k)) false, s10] = .ok (((far P U t p.2).map natD).getD (.int (-1))) := h.get2 (by simp) (by
      generalize prN p = Y at *
      generalize pvD P = PD
      generalize nlD (grd P U t D k) = GD
      have a1' : ixD Y (.int 1) = .ok (.int p.2) := a1
      simp [a1']) (by simp)
    have he : eqD (((far P U t p.2).map natD).getD (.int (-1))) (natD (D - 1 - k)) = .ok (.bool (decide (far P U t p.2 = some (D - 1 - k)))) := by
      cases hg2 : far P U t p.2 with
      | none =>
        show eqD (.int (-1)) (.int (D - 1 - k : Nat)) = _
        rw [eqD_int]
        rw [decide_eq_false (by omega)]
        rfl
      | some j =>
        show eqD (.int j) (.int (D - 1 - k : Nat)) = _
        rw [eqD_int]
        congr 2
        apply decide_eq_decide.mpr
        constructor
        · intro z
          have : j = D - 1 - k := by omega
          rw [this]
        · intro z
          have : j = D - 1 - k := by injection z
          rw [this]
    have e0 : eqD (natD p.1) (natD (lastN (grd P U t D k))) = .ok (.bool (decide (p.1 = lastN (grd P U t D k)))) := by
      show eqD (.int p.1) (.int (lastN (grd P U t D k))) = _
      rw [eqD_int]
      congr 2
      exact decide_eq_decide.mpr (by constructor <;> intro z <;> omega)
    refine ⟨?_, fun _ => ?_⟩
    · generalize hgg : cGet2 (cVarB 4) (c2 ixD (cVarB 6) (cK (.int 1))) (c1 negD (cK (.int 1))) = gg at hg
      unfold q__law_ring_1
      rw [hgg]
      generalize ((far P U t p.2).map natD).getD (.int (-1)) = Z at *
      generalize nlD (grd P U t D k) = GD at *
      generalize natD (lastN (grd P U t D k)) = LD at *
      generalize prN p = Y at *
      generalize pvD P = PD at *
      generalize natD p.1 = X1 at *
      generalize natD (D - 1 - k) = RD at *
      by_cases hp : p.1 = lastN (grd P U t D k)
      · simp [a0, hla, e0, hp, hg, he]
      · simp [a0, hla, e0, hp]
    · generalize nlD (grd P U t D k) = GD at *
      generalize prN p = Y at *
      generalize pvD P = PD at *
      simp [c__law_ring_1, a1])
  have e3 : (P.filter fun p => decide (p.1 = lastN (grd P U t D k)) && decide (far P U t p.2 = some (D - 1 - k))).map (fun p => natD p.2) = ((cand P U t (lastN (grd P U t D k)) (D - 1 - k)).map Int.ofNat).map .int := by
    unfold cand
    rw [List.map_map, List.map_map]; rfl
  rw [e3] at hq
  have hmin : minLD (.list (((cand P U t (lastN (grd P U t D k)) (D - 1 - k)).map Int.ofNat).map .int)) = .ok (natD (nxtG P U t (lastN (grd P U t D k)) (D - 1 - k))) := by
    refine minLD_is ?_ ?_
    · intro x hx
      obtain ⟨y, hy, rfl⟩ := List.mem_map.mp hx
      have := nxtG_least g.asc hy
      show ((nxtG P U t (lastN (grd P U t D k)) (D - 1 - k) : Nat) : Int) ≤ (y : Int)
      omega
    · exact List.mem_map.mpr ⟨_, mem_cand.mpr ⟨f1, f2⟩, rfl⟩
  have hgr : nlD (grd P U t D (k + 1)) = .list ((grd P U t D k).map natD ++ [natD (nxtG P U t (lastN (grd P U t D k)) (D - 1 - k))]) := by
    show PyData.list ((grd P U t D k ++ [_]).map natD) = _
    rw [List.map_append]; rfl
  have ei : itD (pvD P) = .ok (P.map prN) := rfl
  have hl : ((grd P U t D k).map natD).length < 16000000 := by rw [List.length_map]; omega
  refine ⟨.dat (natD (D - 1 - k)) false, .dat (.list (((cand P U t (lastN (grd P U t D k)) (D - 1 - k)).map Int.ofNat).map .int)) true, ?_⟩
  unfold b__law_ring_0
  rw [seq_nx (ρ' := [.dat (pvD P) false, s1, .dat (nlD (grd P U t D k)) true, s3, .dat (.dict kvs) false, s5, .no, .dat (natD D) false, .dat (natD k) false, .dat (natD (D - 1 - k)) false, s10]) (by
    generalize nlD (grd P U t D k) = GD at *
    generalize pvD P = PD at *
    simp [natD, hdk])]
  rw [seq_nx (ρ' := [.dat (pvD P) false, s1, .dat (nlD (grd P U t D k)) true, s3, .dat (.dict kvs) false, s5, .no, .dat (natD D) false, .dat (natD k) false, .dat (natD (D - 1 - k)) false, .dat (.list (((cand P U t (lastN (grd P U t D k)) (D - 1 - k)).map Int.ofNat).map .int)) true]) (by
    generalize ((cand P U t (lastN (grd P U t D k)) (D - 1 - k)).map Int.ofNat).map PyData.int = CC at *
    generalize nlD (grd P U t D k) = GD at *
    generalize pvD P = PD at *
    generalize P.map prN = PL at *
    simp [ei, hq])]
  rw [hgr]
  unfold nlD
  generalize ((cand P U t (lastN (grd P U t D k)) (D - 1 - k)).map Int.ofNat).map PyData.int = CC at *
  generalize (grd P U t D k).map natD = GL at *
  generalize natD (nxtG P U t (lastN (grd P U t D k)) (D - 1 - k)) = NX at *
  generalize pvD P = PD at *
  simp [hmin, hl]
end Pv.K44


namespace Pv.K44
open PySem PySem.Spec L2
open PyProof.Rows hiding St

/-! ### the law's ring, whole -/
theorem u_lring_1 (Φ : Ph) {n : Nat} {P : List NP} {U : List Nat} {t : Nat} (g : Gr n P U t) (hP : P.length ≤ 100) (kvs : List (PyData × PyData)) (h : DcN kvs fun v => (far P U t v).map natD) (hd : Φ f__law_distances [pvD P, nlD U, natD t] = .ok (.dict kvs)) (b : Option (List Nat)) (hb : ∀ d, b = some d → 1 ≤ d.length) (y4 y5 y7 y8 y9 y10 : Sl) :
    ∃ z4 z5 z7 z8 z9 z10, b__law_ring_1 Φ [.dat (pvD P) false, .dat (nlD U) false, .dat (nlD (optL b)) true, .dat (natD t) false, y4, y5, .no, y7, y8, y9, y10] = .nx [.dat (pvD P) false, .dat (nlD U) false, .dat (nlD (optL (bst P U b t))) true, .dat (natD t) false, z4, z5, .no, z7, z8, z9, z10] := by
  have z0 : sizeLine = 16777216 := rfl
  have hq := compL_on prN (fun p => decide (p.1 = t) && (far P U t p.2).isSome) (fun p => natD ((far P U t p.2).getD 0 + 1)) (i := 6) (t := q__law_ring_0 Φ) (e := c__law_ring_0 Φ) (ρ := [.dat (pvD P) false, .dat (nlD U) false, .dat (nlD (optL b)) true, .dat (natD t) false, .dat (.dict kvs) false, y5, .no, y7, y8, y9, y10]) (l := P) (by
    intro p _
    have a1 : ixD (prN p) (.int 1) = .ok (natD p.2) := ixT_1 ..
    have a0 : ixD (prN p) (.int 0) = .ok (natD p.1) := ixT_0 ..
    have i2 := h.in_ p.2
    have i2 : inD (natD p.2) (.dict kvs) = .ok (.bool ((far P U t p.2).map natD).isSome) := i2
    rw [Option.isSome_map] at i2
    have e0 : eqD (natD p.1) (natD t) = .ok (.bool (decide (p.1 = t))) := by
      show eqD (.int p.1) (.int t) = _
      rw [eqD_int]
      congr 2
      exact decide_eq_decide.mpr (by constructor <;> intro z <;> omega)
    refine ⟨?_, fun hs => ?_⟩
    · generalize nlD (optL b) = GD at *
      generalize nlD U = UD at *
      generalize prN p = Y at *
      generalize pvD P = PD at *
      generalize natD p.1 = X1 at *
      generalize natD p.2 = X2 at *
      generalize natD t = TD at *
      by_cases hp : p.1 = t
      · simp [q__law_ring_0, a0, a1, e0, hp, i2]
      · simp [q__law_ring_0, a0, a1, e0, hp]
    · rw [Bool.and_eq_true] at hs
      obtain ⟨j, hj⟩ := Option.isSome_iff_exists.mp hs.2
      have hx := h.ix (m := p.2) (d := natD j) (by rw [hj]; rfl)
      have hx : ixD (.dict kvs) (natD p.2) = .ok (natD j) := hx
      rw [hj]
      generalize nlD (optL b) = GD at *
      generalize nlD U = UD at *
      generalize prN p = Y at *
      generalize pvD P = PD at *
      generalize natD p.2 = X2 at *
      unfold natD at *
      simp [c__law_ring_0, a1, hx])
  have e3 : (P.filter fun p => decide (p.1 = t) && (far P U t p.2).isSome).map (fun p => natD ((far P U t p.2).getD 0 + 1)) = (lensL P U t).map natD := by unfold lensL; rw [List.map_map]; rfl
  rw [e3] at hq
  have ei : itD (pvD P) = .ok (P.map prN) := rfl
  have hll : (lensL P U t).length ≤ 100 := by
    unfold lensL
    rw [List.length_map]
    have := List.length_filter_le (fun p : NP => decide (p.1 = t) && (far P U t p.2).isSome) P
    omega
  have ad : addD (.list ((lensL P U t).map natD)) (.list [.int 99]) = .ok (.list ((lensL P U t).map natD ++ [.int 99])) := addL _ _ (by simp; omega)
  have lenB : lenD (nlD (optL b)) = .ok (.int (optL b).length) := by show R.ok (PyData.int (((optL b).map natD).length : Nat)) = _; rw [List.length_map]
  have s1 : disow [] (sSet 4 false (cCall Φ f__law_distances [cVarB 0, cVarB 1, cVarB 3] [some 0, some 1, some 3])) [.dat (pvD P) false, .dat (nlD U) false, .dat (nlD (optL b)) true, .dat (natD t) false, y4, y5, .no, y7, y8, y9, y10] = .nx [.dat (pvD P) false, .dat (nlD U) false, .dat (nlD (optL b)) true, .dat (natD t) false, .dat (.dict kvs) false, y5, .no, y7, y8, y9, y10] := by
    generalize nlD (optL b) = GD at *
    generalize nlD U = UD at *
    generalize pvD P = PD at *
    generalize natD t = TD at *
    simp [hd]
  have s2 : disow [] (sSet 5 true (cComp (cItE (cVarB 0)) [6] (.one 6) (q__law_ring_0 Φ) (c__law_ring_0 Φ))) [.dat (pvD P) false, .dat (nlD U) false, .dat (nlD (optL b)) true, .dat (natD t) false, .dat (.dict kvs) false, y5, .no, y7, y8, y9, y10] = .nx [.dat (pvD P) false, .dat (nlD U) false, .dat (nlD (optL b)) true, .dat (natD t) false, .dat (.dict kvs) false, .dat (.list ((lensL P U t).map natD)) true, .no, y7, y8, y9, y10] := by
    generalize nlD (optL b) = GD at *
    generalize nlD U = UD at *
    generalize pvD P = PD at *
    generalize natD t = TD at *
    generalize (lensL P U t).map natD = LL at *
    generalize P.map prN = PL at *
    simp [ei, hq]
  unfold b__law_ring_1
  rw [seq_nx s1, seq_nx s2]
  rcases lens_min g with ⟨D, r, hD, hm⟩ | ⟨no, hm⟩
  · have s3 : disow [] (sSet 7 false (c1 minLD (c2 addD (cVarB 5) (cLst [cK (.int 99)])))) [.dat (pvD P) false, .dat (nlD U) false, .dat (nlD (optL b)) true, .dat (natD t) false, .dat (.dict kvs) false, .dat (.list ((lensL P U t).map natD)) true, .no, y7, y8, y9, y10] = .nx [.dat (pvD P) false, .dat (nlD U) false, .dat (nlD (optL b)) true, .dat (natD t) false, .dat (.dict kvs) false, .dat (.list ((lensL P U t).map natD)) true, .no, .dat (natD D) false, y8, y9, y10] := by
      generalize nlD (optL b) = GD at *
      generalize nlD U = UD at *
      generalize pvD P = PD at *
      generalize natD t = TD at *
      generalize (lensL P U t).map natD = LL at *
      simp [ad, hm]
    rw [seq_nx s3]
    have hrb : ringB P U t = some (grd P U t D (D - 1)) := by
      rcases ringB_is g with ⟨D', r', e⟩ | ⟨no, _⟩
      · have : D' = D := by
          rcases Nat.lt_trichotomy D' D with h | h | h
          · exact absurd r'.wk (r.min D' r'.pos h)
          · exact h
          · exact absurd r.wk (r'.min D r.pos h)
        rw [e, this]
      · exact absurd r.wk (no D r.pos)
    have hgl : (grd P U t D (D - 1)).length = D := by
      have := (grd_ok g r (D - 1) (by have := r.pos; omega)).2.1
      have := r.pos
      omega
    have hD99 : (D : Int) < 99 := by omega
    by_cases hc : (optL b).length = 0 ∨ D < (optL b).length
    · -- a better one
      have hbst : bst P U b t = some (grd P U t D (D - 1)) := by
        unfold bst
        rw [hrb]
        cases b with
        | none => rfl
        | some d =>
          have hd1 := hb d rfl
          have hc : d.length = 0 ∨ D < d.length := hc
          show (if (grd P U t D (D - 1)).length < d.length then some (grd P U t D (D - 1)) else some d) = _
          rw [if_pos (by omega)]
      rw [hbst]
      have htest : cAndT (cTst (c2 ltD (cVarB 7) (cK (.int 99)))) (cOrT (cTst (c2 eqD (c1 lenD (cVarB 2)) (cK (.int 0)))) (cTst (c2 ltD (cVarB 7) (c1 lenD (cVarB 2))))) [.dat (pvD P) false, .dat (nlD U) false, .dat (nlD (optL b)) true, .dat (natD t) false, .dat (.dict kvs) false, .dat (.list ((lensL P U t).map natD)) true, .no, .dat (natD D) false, y8, y9, y10] = .ok true := by
        generalize hB : (optL b).length = bl at *
        generalize nlD (optL b) = GD at *
        generalize nlD U = UD at *
        generalize pvD P = PD at *
        generalize natD t = TD at *
        generalize (lensL P U t).map natD = LL at *
        by_cases h0 : bl = 0
        · have h0' : (bl : Int) = 0 := by omega
          simp [natD, hD99, lenB, h0]
        · have h1 : D < bl := by omega
          have h0' : ¬ (bl : Int) = 0 := by omega
          have h1' : (D : Int) < bl := by omega
          simp [natD, hD99, lenB, h0, h1]
      obtain ⟨ρ', g1, y8', y9', y10', rfl⟩ := forL_inv natD (fun done ρ => ∃ y8 y9 y10, ρ = [.dat (pvD P) false, .dat (nlD U) false, .dat (nlD (grd P U t D done.length)) true, .dat (natD t) false, .dat (.dict kvs) false, .dat (.list ((lensL P U t).map natD)) true, .no, .dat (natD D) false, y8, y9, y10]) (i := 8) (b := b__law_ring_0 Φ) (List.range (D - 1)) (by
        rintro done k rest ρ e ⟨y8, y9, y10, rfl⟩
        obtain ⟨hj, rfl⟩ := range_at e
        obtain ⟨s9', s10', q⟩ := u_lring_0 Φ g r hP kvs h done.length (by omega) (by omega) (.dat (nlD U) false) (.dat (natD t) false) (.dat (.list ((lensL P U t).map natD)) true) y9 y10
        exact ⟨_, .inl q, .dat (natD done.length) false, s9', s10', by rw [List.length_append]; rfl⟩) (ρ := [.dat (pvD P) false, .dat (nlD U) false, .dat (nlD [t]) true, .dat (natD t) false, .dat (.dict kvs) false, .dat (.list ((lensL P U t).map natD)) true, .no, .dat (natD D) false, y8, y9, y10]) ⟨y8, y9, y10, rfl⟩
      rw [List.length_range] at g1
      have hr := cRange1_nat (n := D - 1) (a := c2 subD (cVarB 7) (cK (.int 1))) (ρ := [.dat (pvD P) false, .dat (nlD U) false, .dat (nlD [t]) true, .dat (natD t) false, .dat (.dict kvs) false, .dat (.list ((lensL P U t).map natD)) true, .no, .dat (natD D) false, y8, y9, y10]) (by
        have : (D : Int) - 1 = ((D - 1 : Nat) : Int) := by have := r.pos; omega
        generalize nlD [t] = GD
        generalize nlD U = UD at *
        generalize pvD P = PD at *
        generalize (lensL P U t).map natD = LL at *
        simp [natD, this]) (by omega)
      have s4 : disow [3] (sSet 2 true (cLst [cVar 3])) [.dat (pvD P) false, .dat (nlD U) false, .dat (nlD (optL b)) true, .dat (natD t) false, .dat (.dict kvs) false, .dat (.list ((lensL P U t).map natD)) true, .no, .dat (natD D) false, y8, y9, y10] = .nx [.dat (pvD P) false, .dat (nlD U) false, .dat (nlD [t]) true, .dat (natD t) false, .dat (.dict kvs) false, .dat (.list ((lensL P U t).map natD)) true, .no, .dat (natD D) false, y8, y9, y10] := by
        have e : nlD [t] = .list [natD t] := rfl
        rw [e]
        generalize nlD (optL b) = GD at *
        generalize nlD U = UD at *
        generalize pvD P = PD at *
        generalize (lensL P U t).map natD = LL at *
        generalize natD t = TD at *
        simp
      refine ⟨.dat (.dict kvs) false, .dat (.list ((lensL P U t).map natD)) true, .dat (natD D) false, y8', y9', y10', ?_⟩
      rw [sSeq_ap, sIf_ap, htest]
      show (match sSeq _ (sSeq _ sNx) _ with | .nx ρ' => sNx ρ' | r => r) = _
      rw [seq_nx s4, seq_nx (for_nx0 hr g1)]
      rfl
    · have hc1 : (optL b).length ≠ 0 := fun z => hc (.inl z)
      have hc2 : ¬ D < (optL b).length := fun z => hc (.inr z)
      have hbst : bst P U b t = b := by
        unfold bst
        rw [hrb]
        cases b with
        | none => exact absurd rfl hc1
        | some d =>
          have hc2 : ¬ D < d.length := hc2
          show (if (grd P U t D (D - 1)).length < d.length then some (grd P U t D (D - 1)) else some d) = _
          rw [if_neg (by omega)]
      rw [hbst]
      have htest : cAndT (cTst (c2 ltD (cVarB 7) (cK (.int 99)))) (cOrT (cTst (c2 eqD (c1 lenD (cVarB 2)) (cK (.int 0)))) (cTst (c2 ltD (cVarB 7) (c1 lenD (cVarB 2))))) [.dat (pvD P) false, .dat (nlD U) false, .dat (nlD (optL b)) true, .dat (natD t) false, .dat (.dict kvs) false, .dat (.list ((lensL P U t).map natD)) true, .no, .dat (natD D) false, y8, y9, y10] = .ok false := by
        generalize hB : (optL b).length = bl at *
        generalize nlD (optL b) = GD at *
        generalize nlD U = UD at *
        generalize pvD P = PD at *
        generalize natD t = TD at *
        generalize (lensL P U t).map natD = LL at *
        have h0' : ¬ (bl : Int) = 0 := by omega
        have h1' : ¬ (D : Int) < bl := by omega
        simp [natD, hD99, lenB, hc1]
        omega
      refine ⟨.dat (.dict kvs) false, .dat (.list ((lensL P U t).map natD)) true, .dat (natD D) false, y8, y9, y10, ?_⟩
      rw [sSeq_ap, sIf_ap, htest]
      rfl
  · have s3 : disow [] (sSet 7 false (c1 minLD (c2 addD (cVarB 5) (cLst [cK (.int 99)])))) [.dat (pvD P) false, .dat (nlD U) false, .dat (nlD (optL b)) true, .dat (natD t) false, .dat (.dict kvs) false, .dat (.list ((lensL P U t).map natD)) true, .no, y7, y8, y9, y10] = .nx [.dat (pvD P) false, .dat (nlD U) false, .dat (nlD (optL b)) true, .dat (natD t) false, .dat (.dict kvs) false, .dat (.list ((lensL P U t).map natD)) true, .no, .dat (.int 99) false, y8, y9, y10] := by
      generalize nlD (optL b) = GD at *
      generalize nlD U = UD at *
      generalize pvD P = PD at *
      generalize natD t = TD at *
      generalize (lensL P U t).map natD = LL at *
      simp [ad, hm]
    rw [seq_nx s3]
    have hbst : bst P U b t = b := by
      unfold bst
      rcases ringB_is g with ⟨D, r, _⟩ | ⟨_, e⟩
      · exact absurd r.wk (no D r.pos)
      · rw [e]
    rw [hbst]
    refine ⟨.dat (.dict kvs) false, .dat (.list ((lensL P U t).map natD)) true, .dat (.int 99) false, y8, y9, y10, ?_⟩
    generalize nlD (optL b) = GD at *
    generalize nlD U = UD at *
    generalize pvD P = PD at *
    generalize natD t = TD at *
    generalize (lensL P U t).map natD = LL at *
    simp
theorem best_pos {n : Nat} {P : List NP} {U : List Nat} (hn : n ≤ 16) (hU : ∀ u ∈ U, u < n) (ha : AscA leN P) : ∀ (l : List Nat) (b : Option (List Nat)), (∀ t ∈ l, t ∈ U) → (∀ d, b = some d → 1 ≤ d.length) → ∀ d, l.foldl (bst P U) b = some d → 1 ≤ d.length
  | [], b, _, hb, d, h => hb d h
  | t :: l, b, hl, hb, d, h => by
    refine best_pos hn hU ha l (bst P U b t) (fun x hx => hl x (List.mem_cons_of_mem _ hx)) ?_ d h
    intro c hc
    have g : Gr n P U t := ⟨hn, hl t List.mem_cons_self, hU, ha⟩
    unfold bst at hc
    rcases ringB_is g with ⟨D, r, e⟩ | ⟨_, e⟩
    · have hgl : 1 ≤ (grd P U t D (D - 1)).length := by
        have := (grd_ok g r (D - 1) (by have := r.pos; omega)).2.1
        omega
      rw [e] at hc
      cases b with
      | none =>
        injection hc with hc
        rw [← hc]; exact hgl
      | some x =>
        have hc : (if (grd P U t D (D - 1)).length < x.length then some (grd P U t D (D - 1)) else some x) = some c := hc
        split at hc
        · injection hc with hc
          rw [← hc]; exact hgl
        · exact hb c hc
    · rw [e] at hc
      exact hb c hc
theorem v__law_ring (k n : Nat) (hn : n ≤ 16) (P : List NP) (ha : AscA leN P) (hP : P.length ≤ 100) (U : List Nat) (hU : ∀ u ∈ U, u < n) : Ev (k + 2) f__law_ring [pvD P, nlD U] = .ok (nlD (optL (best P U))) := by
  refine (e__law_ring (k + 1) _).trans ?_
  have h1 := fun t => v__law_distances k P U t hP
  generalize Ev (k + 1) = Φ at *
  obtain ⟨ρ', g1, y3, y4, y5, y7, y8, y9, y10, rfl⟩ := forL_inv natD (fun done ρ => ∃ y3 y4 y5 y7 y8 y9 y10, ρ = [.dat (pvD P) false, .dat (nlD U) false, .dat (nlD (optL (done.foldl (bst P U) none))) true, y3, y4, y5, .no, y7, y8, y9, y10]) (i := 3) (b := b__law_ring_1 Φ) U (by
    rintro done t rest ρ e ⟨y3, y4, y5, y7, y8, y9, y10, rfl⟩
    have ht : t ∈ U := by rw [e]; simp
    obtain ⟨kvs, a1, a2⟩ := h1 t
    obtain ⟨z4, z5, z7, z8, z9, z10, q⟩ := u_lring_1 Φ ⟨hn, ht, hU, ha⟩ hP kvs a2 a1 (done.foldl (bst P U) none) (best_pos hn hU ha done none (fun x hx => by rw [e]; exact List.mem_append_left _ hx) (by simp)) y4 y5 y7 y8 y9 y10
    exact ⟨_, .inl q, _, z4, z5, z7, z8, z9, z10, by rw [List.foldl_append]; rfl⟩) (ρ := [.dat (pvD P) false, .dat (nlD U) false, .dat (nlD []) true, .no, .no, .no, .no, .no, .no, .no, .no]) ⟨.no, .no, .no, .no, .no, .no, .no, rfl⟩
  rw [run_of (ρ := [.dat (pvD P) false, .dat (nlD U) false, .no, .no, .no, .no, .no, .no, .no, .no, .no]) rfl rfl]
  unfold t__law_ring
  rw [seq_nx (ρ' := [.dat (pvD P) false, .dat (nlD U) false, .dat (nlD []) true, .no, .no, .no, .no, .no, .no, .no, .no]) (by
    have e : nlD [] = .list [] := rfl
    rw [e]
    generalize nlD U = UD
    generalize pvD P = PD
    simp)]
  have s2 : disow [1] (sFor (cItE (cVar 1)) (.one 3) (b__law_ring_1 Φ)) [.dat (pvD P) false, .dat (nlD U) false, .dat (nlD []) true, .no, .no, .no, .no, .no, .no, .no, .no] = .nx [.dat (pvD P) false, .dat (nlD U) false, .dat (nlD (optL (U.foldl (bst P U) none))) true, y3, y4, y5, .no, y7, y8, y9, y10] := by
    rw [disow_ap]
    refine for_nx ?_ g1
    have ei : itD (nlD U) = .ok (U.map natD) := rfl
    show cItE (cVar 1) [.dat (pvD P) false, .dat (nlD U) false, .dat (nlD []) true, .no, .no, .no, .no, .no, .no, .no, .no] = _
    generalize nlD [] = ND
    generalize nlD U = UD at *
    generalize pvD P = PD
    simp [ei]
  rw [seq_nx s2]
  unfold best
  have hnl : isL (nlD (optL (U.foldl (bst P U) none))) = true := rfl
  generalize nlD (optL (U.foldl (bst P U) none)) = O at *
  generalize nlD U = UD at *
  generalize pvD P = PD
  simp
end Pv.K44


namespace Pv.K44
open PySem PySem.Spec L2
open PyProof.Rows hiding St

/-! ### is_override_ring -/
def prv (c : List Nat) (i : Nat) : Nat := if i = 0 then lastN c else c.getD (i - 1) 0
def edgeB (P : List NP) (c : List Nat) : Bool := (List.range c.length).all fun i => decide ((prv c i, c.getD i 0) ∈ P)
def ringOk (P : List NP) (c : List Nat) : Bool := decide c.Nodup && edgeB P c
theorem mem_prs (q : NP) (P : List NP) : memD (prN q) (P.map prN) = decide (q ∈ P) := by
  unfold memD
  rw [List.any_map]
  induction P with
  | nil => rfl
  | cons y l ih =>
    rw [List.any_cons, ih]
    show (PyData.eqv (prN y) (prN q) || decide (q ∈ l)) = _
    rw [eqv_prN]
    by_cases h : y = q
    · simp [h]
    · have h' : ¬ q = y := fun e => h e.symm
      simp [h, h']
theorem notIn_prs (q : NP) (P : List NP) : notInD (prN q) (pvD P) = .ok (.bool (!decide (q ∈ P))) := by
  have := (notInD_seq (d := prN q) (ds := P.map prN) (by simp [prN, PyData.depth, PyData.depthAll]) rfl (encN.noDics P)).1
  rw [mem_prs] at this
  exact this
/-- a number of U -/
def inU (U : List Nat) : PyData → Bool
  | .int i => decide (0 ≤ i) && decide (i.toNat ∈ U)
  | _ => false
theorem memD_flat (d : PyData) (h : ∀ i, d = .int i → ∃ m : Nat, i = m) (U : List Nat) (hi : intdB d = true) : memD d (U.map natD) = inU U d := by
  cases d with
  | int i =>
    obtain ⟨m, rfl⟩ := h i rfl
    have := mem_nats m U
    unfold natD at this
    rw [show (U.map fun k : Nat => PyData.int k) = U.map natD from rfl] at this
    rw [this]
    simp [inU]
  | _ => cases hi
theorem notIn_neg (i : Int) (hi : i < 0) (U : List Nat) : notInD (.int i) (nsD U) = .ok (.bool true) := by
  have := (notInD_seq (d := .int i) (ds := U.map natD) (by simp [PyData.depth]) rfl (nd_nats U)).1
  have e : memD (.int i) (U.map natD) = false := by
    unfold memD
    rw [List.any_eq_false]
    intro x hx
    obtain ⟨m, _, rfl⟩ := List.mem_map.mp hx
    simp [natD, PyData.eqv]
    omega
  rw [e] at this
  exact this
theorem notIn_nat (m : Nat) (U : List Nat) : notInD (natD m) (nsD U) = .ok (.bool (!decide (m ∈ U))) := by
  have := (notInD_seq (d := natD m) (ds := U.map natD) (by simp [natD, PyData.depth]) rfl (nd_nats U)).1
  rw [mem_nats] at this
  exact this
theorem u_isr_0 (Φ : Ph) (h : ∀ d, Φ f_is_integer [d] = .ok (.bool (intdB d))) (U : List Nat) (d : PyData) (s0 s1 s2 s5 : Sl) : b_is_override_ring_0 Φ [s0, s1, s2, .dat (nsD U) false, .dat d false, s5] = if inU U d = true then .nx [s0, s1, s2, .dat (nsD U) false, .dat d false, s5] else .rt (.bool false) := by
  have h1 := h d
  cases d with
  | int i =>
    by_cases hi : 0 ≤ i
    · obtain ⟨m, rfl⟩ := Int.eq_ofNat_of_zero_le hi
      have h2 := notIn_nat m U
      unfold natD at h2
      generalize nsD U = UD at *
      by_cases hm : m ∈ U
      · rw [decide_eq_true hm] at h2
        simp [b_is_override_ring_0, h1, intdB, h2, inU, hm]
      · rw [decide_eq_false hm] at h2
        simp [b_is_override_ring_0, h1, intdB, h2, inU, hm]
    · have h2 := notIn_neg i (by omega) U
      generalize nsD U = UD at *
      simp [b_is_override_ring_0, h1, intdB, h2, inU, hi]
  | _ =>
    generalize nsD U = UD at *
    simp [b_is_override_ring_0, h1, intdB, inU]
theorem v_isr_no (k n : Nat) (P : List NP) {d : PyData} (h : ∀ ds, d ≠ .list ds) : Ev (k + 1) f_is_override_ring [.int n, pvD P, d] = .ok (.bool false) := by
  refine (e_is_override_ring k _).trans ?_
  generalize Ev k = Φ
  generalize pvD P = PD
  cases d <;> first | exact absurd rfl (h _) | simp [t_is_override_ring]
theorem v_isr_nil (k n : Nat) (P : List NP) : Ev (k + 1) f_is_override_ring [.int n, pvD P, .list []] = .ok (.bool false) := by
  refine (e_is_override_ring k _).trans ?_
  generalize Ev k = Φ
  generalize pvD P = PD
  simp [t_is_override_ring]
theorem v_isr_bad (k n : Nat) (hn : n ≤ 16) (P : List NP) (V : List PyData) (h : ∃ d ∈ V, inU (unsL n (St n P)) d = false) : Ev (k + 4) f_is_override_ring [.int n, pvD P, .list V] = .ok (.bool false) := by
  refine (e_is_override_ring (k + 3) _).trans ?_
  have h1 := fun d => v_is_integer (k + 2) d
  have h2 := v_unsettled k n hn P
  generalize unsL n (St n P) = U at *
  generalize Ev (k + 3) = Φ at *
  have hne : V ≠ [] := by
    obtain ⟨d, hd, _⟩ := h
    exact List.ne_nil_of_mem hd
  have g := forL_or (fun d : PyData => d) (fun done ρ => (∃ y, ρ = [.dat (.int n) false, .dat (pvD P) false, .dat (.list V) false, .dat (nsD U) false, y, .no]) ∧ ∀ d ∈ done, inU U d = true) (fun r => r = .rt (.bool false)) (i := 4) (b := b_is_override_ring_0 Φ) V (by
    rintro done d rest ρ e ⟨⟨y, rfl⟩, hd⟩
    have hb := u_isr_0 Φ h1 U d (.dat (.int n) false) (.dat (pvD P) false) (.dat (.list V) false) .no
    cases hx : inU U d with
    | true =>
      left
      rw [hx, if_pos rfl] at hb
      refine ⟨_, .inl hb, ⟨_, rfl⟩, ?_⟩
      intro z hz
      rcases List.mem_append.mp hz with hz | hz
      · exact hd z hz
      · rw [List.mem_singleton.mp hz]; exact hx
    | false =>
      right
      rw [hx, if_neg (by simp)] at hb
      rw [show b_is_override_ring_0 Φ ([.dat (.int n) false, .dat (pvD P) false, .dat (.list V) false, .dat (nsD U) false, y, .no].set 4 (.dat d false)) = _ from hb]
      exact ⟨.inl ⟨_, rfl⟩, rfl⟩) (ρ := [.dat (.int n) false, .dat (pvD P) false, .dat (.list V) false, .dat (nsD U) false, .no, .no]) ⟨⟨_, rfl⟩, by simp⟩
  rw [List.map_id'] at g
  generalize nsD U = UD at *
  generalize pvD P = PD at *
  rcases g with ⟨ρ', _, _, g⟩ | ⟨_, g⟩
  · obtain ⟨d, hd, hx⟩ := h
    rw [g d hd] at hx
    cases hx
  · simp [t_is_override_ring, hne, h2, g]
theorem u_isr_1 (Φ : Ph) (P : List NP) (c : List Nat) (i : Nat) (hi : i < c.length) (s0 s3 s4 : Sl) : b_is_override_ring_1 Φ [s0, .dat (pvD P) false, .dat (nlD c) false, s3, s4, .dat (natD i) false] = if decide ((prv c i, c.getD i 0) ∈ P) = true then .nx [s0, .dat (pvD P) false, .dat (nlD c) false, s3, s4, .dat (natD i) false] else .rt (.bool false) := by
  have a1 : ixD (nlD c) (.int i) = .ok (natD (c.getD i 0)) := by
    refine ixL_nat ?_
    rw [List.getElem?_map, List.getElem?_eq_getElem hi]
    simp [List.getElem?_eq_getElem hi]
  have a2 : ixD (nlD c) (.int ((i : Int) - 1)) = .ok (natD (prv c i)) := by
    unfold prv
    by_cases h0 : i = 0
    · subst h0
      rw [if_pos rfl]
      exact last_nl (by omega)
    · rw [if_neg h0, show (i : Int) - 1 = ((i - 1 : Nat) : Int) by omega]
      have hj : i - 1 < c.length := by omega
      refine ixL_nat ?_
      rw [List.getElem?_map, List.getElem?_eq_getElem hj]
      simp [List.getElem?_eq_getElem hj]
  have a3 := notIn_prs (prv c i, c.getD i 0) P
  have e : prN (prv c i, c.getD i 0) = .tuple [natD (prv c i), natD (c.getD i 0)] := rfl
  rw [e] at a3
  generalize natD (prv c i) = X1 at *
  generalize natD (c.getD i 0) = X2 at *
  generalize nlD c = C at *
  generalize pvD P = PD at *
  unfold natD
  by_cases hm : (prv c i, c.getD i 0) ∈ P
  · rw [decide_eq_true hm] at a3 ⊢
    simp [b_is_override_ring_1, a1, a2, a3]
  · rw [decide_eq_false hm] at a3 ⊢
    simp [b_is_override_ring_1, a1, a2, a3]
theorem v_isr (k n : Nat) (hn : n ≤ 16) (P : List NP) (c : List Nat) (h0 : c ≠ []) (hl : c.length ≤ 1000) (h : ∀ x ∈ c, x ∈ unsL n (St n P)) : Ev (k + 4) f_is_override_ring [.int n, pvD P, nlD c] = .ok (.bool (ringOk P c)) := by
  refine (e_is_override_ring (k + 3) _).trans ?_
  have h1 := fun d => v_is_integer (k + 2) d
  have h2 := v_unsettled k n hn P
  have e1 : c.map natD = (c.map Int.ofNat).map .int := by rw [List.map_map]; rfl
  have h3 : Ev (k + 3) f_distinct [nlD c] = .ok (.tuple ((distA leI (c.map Int.ofNat)).map .int)) := by
    unfold nlD
    rw [e1]
    exact v_distA encI (k + 2) (c.map Int.ofNat) (by rw [List.length_map]; omega) (.inl rfl)
  generalize unsL n (St n P) = U at *
  generalize Ev (k + 3) = Φ at *
  have hpos : 0 < c.length := List.length_pos_iff.mpr h0
  have hne : ¬ (c.length : Int) = 0 := by omega
  have hlen : lenD (nlD c) = .ok (.int c.length) := by show R.ok (PyData.int ((c.map natD).length : Nat)) = _; rw [List.length_map]
  have hty : tyD (nlD c) = "list" := rfl
  have hit : itD (nlD c) = .ok (c.map natD) := rfl
  have hd := distA_len ordI (c.map Int.ofNat)
  have hnd : (c.map Int.ofNat).Nodup ↔ c.Nodup := by
    rw [List.Nodup, List.pairwise_map]
    constructor
    · intro z
      exact z.imp fun hab e => hab (by rw [e])
    · intro z
      exact z.imp fun hab e => hab (Int.ofNat.inj e)
  rw [hnd, List.length_map] at hd
  have hld : lenD (.tuple ((distA leI (c.map Int.ofNat)).map .int)) = .ok (.int (distA leI (c.map Int.ofNat)).length) := by show R.ok (PyData.int (((distA leI (c.map Int.ofNat)).map PyData.int).length : Nat)) = _; rw [List.length_map]
  obtain ⟨y4, g1⟩ := forL_same natD (fun y => [.dat (.int n) false, .dat (pvD P) false, .dat (nlD c) false, .dat (nsD U) false, y, .no]) (i := 4) (b := b_is_override_ring_0 Φ) c (fun x y => rfl) (by
    intro x hx
    have hb := u_isr_0 Φ h1 U (natD x) (.dat (.int n) false) (.dat (pvD P) false) (.dat (nlD c) false) .no
    rw [if_pos (by simp [inU, natD, h x hx])] at hb
    exact hb) .no
  have g2 := forL_or natD (fun done ρ => (∃ y, ρ = [.dat (.int n) false, .dat (pvD P) false, .dat (nlD c) false, .dat (nsD U) false, y4, y]) ∧ ∀ i ∈ done, decide ((prv c i, c.getD i 0) ∈ P) = true) (fun r => r = .rt (.bool false) ∧ edgeB P c = false) (i := 5) (b := b_is_override_ring_1 Φ) (List.range c.length) (by
    rintro done i rest ρ e ⟨⟨y, rfl⟩, hdn⟩
    obtain ⟨hm, he⟩ := range_at e
    have hm' : i < c.length := by omega
    have hb := u_isr_1 Φ P c i hm' (.dat (.int n) false) (.dat (nsD U) false) y4
    cases hx : decide ((prv c i, c.getD i 0) ∈ P) with
    | true =>
      left
      rw [hx, if_pos rfl] at hb
      refine ⟨_, .inl hb, ⟨_, rfl⟩, ?_⟩
      intro z hz
      rcases List.mem_append.mp hz with hz | hz
      · exact hdn z hz
      · rw [List.mem_singleton.mp hz]; exact hx
    | false =>
      right
      rw [hx, if_neg (by simp)] at hb
      rw [show b_is_override_ring_1 Φ ([.dat (.int n) false, .dat (pvD P) false, .dat (nlD c) false, .dat (nsD U) false, y4, y].set 5 (.dat (natD i) false)) = _ from hb]
      refine ⟨.inl ⟨_, rfl⟩, rfl, ?_⟩
      unfold edgeB
      rw [List.all_eq_false]
      exact ⟨i, by simpa using hm', by rw [hx]; simp⟩) (ρ := [.dat (.int n) false, .dat (pvD P) false, .dat (nlD c) false, .dat (nsD U) false, y4, .no]) ⟨⟨_, rfl⟩, by simp⟩
  have hr := cRange1_nat (n := c.length) (a := c1 lenD (cVarB 2)) (ρ := [.dat (.int n) false, .dat (pvD P) false, .dat (nlD c) false, .dat (nsD U) false, y4, .no]) (by
    generalize nlD c = C at *
    simp [hlen]) (by omega)
  rw [run_of (ρ := [.dat (.int n) false, .dat (pvD P) false, .dat (nlD c) false, .no, .no, .no]) rfl rfl]
  unfold t_is_override_ring
  rw [seq_nx (ρ' := [.dat (.int n) false, .dat (pvD P) false, .dat (nlD c) false, .no, .no, .no]) (by
    generalize nlD c = C at *
    generalize pvD P = PD at *
    simp [hty, hlen, hne, h0])]
  rw [seq_nx (ρ' := [.dat (.int n) false, .dat (pvD P) false, .dat (nlD c) false, .dat (nsD U) false, .no, .no]) (by
    generalize nlD c = C at *
    generalize pvD P = PD at *
    generalize nsD U = UD at *
    simp [h2])]
  have s2 : disow [2] (sFor (cItE (cVar 2)) (.one 4) (b_is_override_ring_0 Φ)) [.dat (.int n) false, .dat (pvD P) false, .dat (nlD c) false, .dat (nsD U) false, .no, .no] = .nx [.dat (.int n) false, .dat (pvD P) false, .dat (nlD c) false, .dat (nsD U) false, y4, .no] := by
    rw [disow_ap]
    exact for_nx (by
      show cItE (cVar 2) [.dat (.int n) false, .dat (pvD P) false, .dat (nlD c) false, .dat (nsD U) false, .no, .no] = _
      generalize nsD U = UD at *
      simp [hit]) g1
  rw [seq_nx s2]
  by_cases hnn : c.Nodup
  · have hdl := hd.mpr hnn
    rw [seq_nx (ρ' := [.dat (.int n) false, .dat (pvD P) false, .dat (nlD c) false, .dat (nsD U) false, y4, .no]) (by
      rw [hdl] at hld
      generalize (distA leI (c.map Int.ofNat)).map PyData.int = DI at *
      generalize nlD c = C at *
      generalize pvD P = PD at *
      generalize nsD U = UD at *
      simp [h3, hld, hlen, -lenD_tuple])]
    unfold ringOk
    rw [decide_eq_true hnn, Bool.true_and]
    rcases g2 with ⟨ρ', g2, ⟨y5, rfl⟩, g3⟩ | ⟨_, g2, g3⟩
    · have : edgeB P c = true := by
        unfold edgeB
        rw [List.all_eq_true]
        exact g3
      rw [this, seq_nx (for_nx0 hr g2)]
      generalize nlD c = C at *
      generalize pvD P = PD at *
      generalize nsD U = UD at *
      simp
    · rw [g3]
      have s3 : disow [] (sFor (cRange1 (c1 lenD (cVarB 2))) (.one 5) (b_is_override_ring_1 Φ)) [.dat (.int n) false, .dat (pvD P) false, .dat (nlD c) false, .dat (nsD U) false, y4, .no] = .rt (.bool false) := by
        rw [disow_ap]
        exact (for_of hr).trans g2
      rw [seq_rt s3]
      rfl
  · have hdl : ¬ (distA leI (c.map Int.ofNat)).length = c.length := fun z => hnn (hd.mp z)
    have hdl' : ¬ ((distA leI (c.map Int.ofNat)).length : Int) = c.length := by omega
    unfold ringOk
    rw [decide_eq_false hnn, Bool.false_and]
    generalize (distA leI (c.map Int.ofNat)).length = dl at *
    generalize (distA leI (c.map Int.ofNat)).map PyData.int = DI at *
    generalize nlD c = C at *
    generalize pvD P = PD at *
    generalize nsD U = UD at *
    simp [h3, hld, hlen, -lenD_tuple, hdl, hdl', h0, hty]
end Pv.K44


namespace Pv.K44
open PySem PySem.Spec L2
open PyProof.Rows hiding St

/-! ### what a shortest ring is like -/
theorem edge_iff {P : List NP} {c : List Nat} : edgeB P c = true ↔ ∀ i, i < c.length → (prv c i, c.getD i 0) ∈ P := by
  unfold edgeB
  rw [List.all_eq_true]
  constructor
  · intro h i hi
    exact of_decide_eq_true (h i (by simpa using hi))
  · intro h i hi
    exact decide_eq_true (h i (by simpa using hi))
theorem getD_l {a b : List Nat} {i : Nat} (h : i < a.length) : (a ++ b).getD i 0 = a.getD i 0 := by
  rw [List.getD_eq_getElem?_getD, List.getElem?_append_left h, ← List.getD_eq_getElem?_getD]
theorem getD_r (a : List Nat) (l : Nat) : (a ++ [l]).getD a.length 0 = l := by
  rw [List.getD_eq_getElem?_getD, List.getElem?_append_right (Nat.le_refl _)]
  simp
theorem isW_of {P : List NP} {U : List Nat} : ∀ (m : Nat) (c : List Nat) (x : Nat), c.length = m → (∀ i, i < c.length → ((x :: c).getD i 0, (x :: c).getD (i + 1) 0) ∈ P) → (∀ v ∈ c, v ∈ U) → IsW P U x (x :: c) := by
  intro m
  induction m with
  | zero =>
    intro c x hm _ _
    rw [List.eq_nil_of_length_eq_zero hm]
    exact IsW.base
  | succ m ih =>
    intro c' x hm h hU
    rcases List.eq_nil_or_concat c' with rfl | ⟨c, l, rfl⟩
    · cases hm
    rw [List.concat_eq_append] at hm h hU ⊢
    have h1 := ih c x (by rw [List.length_append] at hm; simp at hm; omega) (by
      intro i hi
      have := h i (by rw [List.length_append]; omega)
      rw [← List.cons_append] at this
      rwa [getD_l (by simp; omega), getD_l (by simp; omega)] at this) (fun v hv => hU v (List.mem_append_left _ hv))
    have h2 := h c.length (by simp)
    rw [← List.cons_append] at h2
    have e1 : (x :: c ++ [l]).getD c.length 0 = lastN (x :: c) := by
      rw [getD_l (by simp)]
      unfold lastN
      rw [List.getLastD_eq_getLast?, List.getLast?_eq_getElem?]
      simp [List.getD_eq_getElem?_getD]
    have e2 : (x :: c ++ [l]).getD (c.length + 1) 0 = l := by
      exact getD_r (x :: c) l
    rw [e1, e2] at h2
    rw [← List.cons_append]
    exact IsW.step h1 h2 (hU l (by simp))
theorem ring_wk {P : List NP} {U : List Nat} {c : List Nat} (h0 : c ≠ []) (hU : ∀ v ∈ c, v ∈ U) (h : edgeB P c = true) : Wk P U (c.getD 0 0) c.length (c.getD 0 0) ∧ c.getD 0 0 ∈ U := by
  rw [edge_iff] at h
  cases c with
  | nil => exact absurd rfl h0
  | cons x c =>
    have hx : x ∈ U := hU x List.mem_cons_self
    refine ⟨?_, hx⟩
    show Wk P U x (x :: c).length x
    have hw : IsW P U x (x :: c) := isW_of c.length c x rfl (by
      intro i hi
      have := h (i + 1) (by simp; omega)
      unfold prv at this
      rw [if_neg (by omega)] at this
      exact this) (fun v hv => hU v (List.mem_cons_of_mem _ hv))
    have hclose := h 0 (by simp)
    have hclose : (lastN (x :: c), x) ∈ P := hclose
    have h1 : Wk P U x 1 (lastN (x :: c)) := ⟨hw.last_in hx, x, hclose, rfl⟩
    have := hw.join hx h1
    simpa using this
/-- the shortest of all -/
structure Least (n : Nat) (P : List NP) (U : List Nat) (G : List Nat) : Prop where
  from_ : ∃ t D, Gr n P U t ∧ Ring P U t D ∧ G = grd P U t D (D - 1) ∧ G.length = D
  min : ∀ t ∈ U, ∀ j, 1 ≤ j → Wk P U t j t → G.length ≤ j
theorem grd_at {n : Nat} {P : List NP} {U : List Nat} {t : Nat} (g : Gr n P U t) {D : Nat} (r : Ring P U t D) : ∀ k, k + 1 ≤ D → ∀ j, j ≤ k → (grd P U t D k)[j]? = some (lastN (grd P U t D j))
  | 0, _, j, hj => by
    have : j = 0 := by omega
    subst this
    rfl
  | k + 1, hk, j, hj => by
    have hlen := (grd_ok g r k (by omega)).2.1
    show (grd P U t D k ++ [_])[j]? = _
    by_cases h : j ≤ k
    · rw [List.getElem?_append_left (by omega)]
      exact grd_at g r k (by omega) j h
    · have : j = k + 1 := by omega
      subst this
      rw [List.getElem?_append_right (by omega), hlen]
      show _ = some (lastN (grd P U t D k ++ [_]))
      rw [lastN_app]
      simp
theorem least_ring {n : Nat} {P : List NP} {U : List Nat} {G : List Nat} (h : Least n P U G) : G ≠ [] ∧ (∀ v ∈ G, v ∈ U) ∧ ringOk P G = true := by
  obtain ⟨t, D, g, r, rfl, hlen⟩ := h.from_
  have hD := r.pos
  obtain ⟨g1, g2, g3⟩ := grd_ok g r (D - 1) (by omega)
  refine ⟨List.length_pos_iff.mp (by omega), g1.all_in g.ht, ?_⟩
  have hat := grd_at g r (D - 1) (by omega)
  unfold ringOk
  rw [Bool.and_eq_true]
  constructor
  · apply decide_eq_true
    rw [List.nodup_iff_pairwise_ne, List.pairwise_iff_getElem]
    intro i j hi hj hij e
    have ei := hat i (by omega)
    have ej := hat j (by omega)
    rw [List.getElem?_eq_getElem hi] at ei
    rw [List.getElem?_eq_getElem hj] at ej
    injection ei with ei
    injection ej with ej
    have k1 := grd_ok g r i (by omega)
    have k2 := grd_ok g r j (by omega)
    have hw := k2.2.2
    rw [← ej, ← e, ei] at hw
    have := k1.1.join g.ht hw
    exact r.min _ (by omega) (by omega) this
  · rw [edge_iff]
    intro i hi
    have hgi : ∀ j, j ≤ D - 1 → (grd P U t D (D - 1)).getD j 0 = lastN (grd P U t D j) := by
      intro j hj
      rw [List.getD_eq_getElem?_getD, hat j hj]; rfl
    rw [hgi i (by omega)]
    unfold prv
    by_cases h0 : i = 0
    · subst h0
      rw [if_pos rfl]
      have hw : Wk P U t 1 (lastN (grd P U t D (D - 1))) := by rwa [show D - (D - 1) = 1 by omega] at g3
      obtain ⟨_, l, hl, e⟩ := hw
      have e : l = t := e
      subst e
      exact hl
    · rw [if_neg h0, hgi (i - 1) (by omega)]
      have := (grd_far g r (i - 1) (by omega)).1
      have e : lastN (grd P U t D i) = nxtG P U t (lastN (grd P U t D (i - 1))) (D - 1 - (i - 1)) := by
        obtain ⟨j, rfl⟩ : ∃ j, i = j + 1 := ⟨i - 1, by omega⟩
        show lastN (grd P U t D j ++ [_]) = _
        rw [lastN_app]
        rfl
      rw [e]
      exact this
/-- no ring is shorter -/
theorem least_le {n : Nat} {P : List NP} {U : List Nat} {G : List Nat} (h : Least n P U G) {c : List Nat} (h0 : c ≠ []) (hU : ∀ v ∈ c, v ∈ U) (hr : edgeB P c = true) : G.length ≤ c.length := by
  obtain ⟨h1, h2⟩ := ring_wk h0 hU hr
  exact h.min _ h2 _ (List.length_pos_iff.mpr h0) h1
theorem best_least {n : Nat} {P : List NP} {U : List Nat} (hn : n ≤ 16) (hU : ∀ u ∈ U, u < n) (ha : AscA leN P) : (∃ G, best P U = some G ∧ Least n P U G) ∨ (best P U = none ∧ ∀ t ∈ U, ∀ j, 1 ≤ j → ¬ Wk P U t j t) := by
  have go : ∀ (l done : List Nat), (∀ t ∈ l, t ∈ U) → (∀ t ∈ done, t ∈ U) → ∀ b, ((∃ G, b = some G ∧ (∃ t D, Gr n P U t ∧ Ring P U t D ∧ G = grd P U t D (D - 1) ∧ G.length = D) ∧ ∀ t ∈ done, ∀ j, 1 ≤ j → Wk P U t j t → G.length ≤ j) ∨ (b = none ∧ ∀ t ∈ done, ∀ j, 1 ≤ j → ¬ Wk P U t j t)) →
      ((∃ G, l.foldl (bst P U) b = some G ∧ (∃ t D, Gr n P U t ∧ Ring P U t D ∧ G = grd P U t D (D - 1) ∧ G.length = D) ∧ ∀ t ∈ done ++ l, ∀ j, 1 ≤ j → Wk P U t j t → G.length ≤ j) ∨ (l.foldl (bst P U) b = none ∧ ∀ t ∈ done ++ l, ∀ j, 1 ≤ j → ¬ Wk P U t j t)) := by
    intro l
    induction l with
    | nil => intro done _ _ b h; rw [List.append_nil]; exact h
    | cons t l ih =>
      intro done hl hd b h
      have ht := hl t List.mem_cons_self
      have g : Gr n P U t := ⟨hn, ht, hU, ha⟩
      have := ih (done ++ [t]) (fun x hx => hl x (List.mem_cons_of_mem _ hx)) (by
        intro x hx
        rcases List.mem_append.mp hx with hx | hx
        · exact hd x hx
        · rw [List.mem_singleton.mp hx]; exact ht) (bst P U b t) (by
        unfold bst
        rcases ringB_is g with ⟨D, r, e⟩ | ⟨no, e⟩
        · rw [e]
          have hlen : (grd P U t D (D - 1)).length = D := by
            have := (grd_ok g r (D - 1) (by have := r.pos; omega)).2.1
            have := r.pos
            omega
          have hmin : ∀ j, 1 ≤ j → Wk P U t j t → D ≤ j := by
            intro j h1 h2
            by_cases hlt : j < D
            · exact absurd h2 (r.min j h1 hlt)
            · omega
          rcases h with ⟨G, rfl, h1, h2⟩ | ⟨rfl, h2⟩
          · left
            show ∃ G', (if (grd P U t D (D - 1)).length < G.length then some (grd P U t D (D - 1)) else some G) = some G' ∧ _
            by_cases hc : (grd P U t D (D - 1)).length < G.length
            · rw [if_pos hc]
              refine ⟨_, rfl, ⟨t, D, g, r, rfl, hlen⟩, ?_⟩
              intro x hx j hj hw
              rcases List.mem_append.mp hx with hx | hx
              · have := h2 x hx j hj hw
                omega
              · rw [List.mem_singleton.mp hx] at hw
                rw [hlen]
                exact hmin j hj hw
            · rw [if_neg hc]
              refine ⟨_, rfl, h1, ?_⟩
              intro x hx j hj hw
              rcases List.mem_append.mp hx with hx | hx
              · exact h2 x hx j hj hw
              · rw [List.mem_singleton.mp hx] at hw
                have := hmin j hj hw
                omega
          · left
            refine ⟨_, rfl, ⟨t, D, g, r, rfl, hlen⟩, ?_⟩
            intro x hx j hj hw
            rcases List.mem_append.mp hx with hx | hx
            · exact absurd hw (h2 x hx j hj)
            · rw [List.mem_singleton.mp hx] at hw
              rw [hlen]
              exact hmin j hj hw
        · rw [e]
          rcases h with ⟨G, rfl, h1, h2⟩ | ⟨rfl, h2⟩
          · left
            refine ⟨G, rfl, h1, ?_⟩
            intro x hx j hj hw
            rcases List.mem_append.mp hx with hx | hx
            · exact h2 x hx j hj hw
            · rw [List.mem_singleton.mp hx] at hw
              exact absurd hw (no j hj)
          · right
            refine ⟨rfl, ?_⟩
            intro x hx j hj hw
            rcases List.mem_append.mp hx with hx | hx
            · exact h2 x hx j hj hw
            · rw [List.mem_singleton.mp hx] at hw
              exact no j hj hw)
      rw [List.foldl_cons]
      simpa using this
  have := go U [] (fun _ h => h) (by simp) none (.inr ⟨rfl, by simp⟩)
  rw [List.nil_append] at this
  rcases this with ⟨G, h1, h2, h3⟩ | h
  · exact .inl ⟨G, h1, h2, h3⟩
  · exact .inr h
/-- some ring, if each one has an upper among them -/
theorem some_ring {n : Nat} {P : List NP} {U : List Nat} (hU : ∀ u ∈ U, u < n) (h : ∀ v ∈ U, ∃ u ∈ U, (u, v) ∈ P) (t : Nat) (ht : t ∈ U) : ∃ v ∈ U, ∃ j, 1 ≤ j ∧ Wk P U v j v := by
  classical
  let up : Nat → Nat := fun v => if hv : v ∈ U then (h v hv).choose else 0
  have up_in : ∀ v, v ∈ U → up v ∈ U ∧ (up v, v) ∈ P := by
    intro v hv
    have := (h v hv).choose_spec
    have e : up v = (h v hv).choose := dif_pos hv
    rw [e]
    exact this
  let x : Nat → Nat := fun i => Nat.rec t (fun _ y => up y) i
  have hx : ∀ i, x i ∈ U := by
    intro i
    induction i with
    | zero => exact ht
    | succ i ih => exact (up_in (x i) ih).1
  have he : ∀ i, (x (i + 1), x i) ∈ P := fun i => (up_in (x i) (hx i)).2
  have hw : ∀ d i, Wk P U (x i) d (x (i + d)) := by
    intro d
    induction d with
    | zero => intro i; rfl
    | succ d ih =>
      intro i
      exact ⟨hx (i + (d + 1)), x (i + d), he (i + d), ih i⟩
  by_cases hinj : ∀ i j, i < j → j ≤ n → x i ≠ x j
  · exfalso
    have hn : ((List.range (n + 1)).map x).Nodup := by
      rw [List.nodup_iff_pairwise_ne, List.pairwise_map]
      refine List.Pairwise.imp_of_mem (fun {a b} ha hb hab => ?_) List.pairwise_lt_range
      exact hinj a b hab (by have := List.mem_range.mp hb; omega)
    have := nodup_lt n _ hn (by
      intro y hy
      obtain ⟨i, _, rfl⟩ := List.mem_map.mp hy
      exact hU _ (hx i))
    simp at this
    omega
  · have : ∃ i j, i < j ∧ x i = x j := by
      apply Classical.byContradiction
      intro hno
      exact hinj fun i j hij _ e => hno ⟨i, j, hij, e⟩
    obtain ⟨i, j, hij, e⟩ := this
    have w := hw (j - i) i
    rw [show i + (j - i) = j by omega, ← e] at w
    exact ⟨x i, hx i, j - i, by omega, w⟩
end Pv.K44


namespace Pv.K44
open PySem PySem.Spec L2
open PyProof.Rows hiding St

/-! ### rings right -/
theorem lastN_cons (x : Nat) {r : List Nat} (h : r ≠ []) : lastN (x :: r) = lastN r := by
  rcases List.eq_nil_or_concat r with rfl | ⟨i, y, rfl⟩
  · exact absurd rfl h
  · rw [List.concat_eq_append, ← List.cons_append, lastN_app, lastN_app]
theorem lastN_getD {r : List Nat} (h : r ≠ []) : r.getD (r.length - 1) 0 = lastN r := by
  rcases List.eq_nil_or_concat r with rfl | ⟨i, y, rfl⟩
  · exact absurd rfl h
  · rw [List.concat_eq_append, lastN_app, List.length_append]
    exact getD_r i y
theorem turn_ok {P : List NP} {x y : Nat} {r : List Nat} (h : ringOk P (x :: y :: r) = true) : ringOk P (y :: r ++ [x]) = true := by
  unfold ringOk at *
  rw [Bool.and_eq_true] at *
  obtain ⟨h1, h2⟩ := h
  have h1 := of_decide_eq_true h1
  rw [edge_iff] at *
  refine ⟨decide_eq_true ?_, ?_⟩
  · have p : (y :: r ++ [x]).Perm (x :: y :: r) := by
      have := List.perm_append_comm (l₁ := y :: r) (l₂ := [x])
      simpa using this
    exact p.nodup_iff.mpr h1
  · intro i hi
    rw [List.length_append] at hi
    have hi : i < (y :: r).length + 1 := hi
    by_cases h0 : i = 0
    · subst h0
      have := h2 1 (by simp)
      have e : prv (y :: r ++ [x]) 0 = x := by
        unfold prv
        rw [if_pos rfl, lastN_app]
      rw [e]
      exact this
    · by_cases hl : i < (y :: r).length
      · have := h2 (i + 1) (by simp at hl ⊢; omega)
        have e1 : (y :: r ++ [x]).getD i 0 = (x :: y :: r).getD (i + 1) 0 := by rw [getD_l hl]; rfl
        have e2 : prv (y :: r ++ [x]) i = prv (x :: y :: r) (i + 1) := by
          unfold prv
          rw [if_neg h0, if_neg (by omega), getD_l (by omega)]
          obtain ⟨j, rfl⟩ : ∃ j, i = j + 1 := ⟨i - 1, by omega⟩
          rfl
        rw [e1, e2]
        exact this
      · have hie : i = (y :: r).length := by omega
        subst hie
        have := h2 0 (by simp)
        have e1 : (y :: r ++ [x]).getD (y :: r).length 0 = x := getD_r _ _
        have e2 : prv (y :: r ++ [x]) (y :: r).length = lastN (x :: y :: r) := by
          unfold prv
          rw [if_neg h0, getD_l (by simp), lastN_cons x (by simp)]
          exact lastN_getD (by simp)
        rw [e1, e2]
        exact this
theorem back_no {n : Nat} {P : List NP} {U : List Nat} {x y z : Nat} {r : List Nat} (h : Least n P U (x :: y :: z :: r)) (hU : ∀ v ∈ x :: y :: z :: r, v ∈ U) (hr : ringOk P (x :: y :: z :: r) = true) : ringOk P (x :: y :: z :: r).reverse = false := by
  rw [← Bool.not_eq_true]
  intro hc
  unfold ringOk at hr hc
  rw [Bool.and_eq_true] at hr hc
  have e1 := edge_iff.mp hr.2 1 (by simp)
  have e1 : (x, y) ∈ P := e1
  have e2 := edge_iff.mp hc.2 ((z :: r).length + 1) (by simp)
  have hrev : (x :: y :: z :: r).reverse = ((z :: r).reverse ++ [y]) ++ [x] := by simp
  rw [hrev] at e2
  have l1 : ((z :: r).reverse ++ [y]).length = (z :: r).length + 1 := by simp
  have a1 : (((z :: r).reverse ++ [y]) ++ [x]).getD ((z :: r).length + 1) 0 = x := by
    have := getD_r ((z :: r).reverse ++ [y]) x
    rwa [l1] at this
  have a2 : prv (((z :: r).reverse ++ [y]) ++ [x]) ((z :: r).length + 1) = y := by
    unfold prv
    rw [if_neg (by omega), getD_l (by omega)]
    have := getD_r (z :: r).reverse y
    rwa [List.length_reverse] at this
  rw [a1, a2] at e2
  have := least_le h (c := [x, y]) (by simp) (by
    intro v hv
    simp at hv
    rcases hv with rfl | rfl
    · exact hU _ (by simp)
    · exact hU _ (by simp)) (edge_iff.mpr (by
    intro i hi
    have hi : i = 0 ∨ i = 1 := by simp at hi; omega
    rcases hi with rfl | rfl
    · exact e2
    · exact e1))
  simp at this
theorem u_rings_wrong (Φ : Ph) (x P : PyData) (n : Nat) (h : Φ f_is_override_ring [.int n, P, x] = .ok (.bool false)) (s2 s3 s4 s5 s6 s7 : Sl) : b__law_rings_right_0 Φ [.dat (.int n) false, .dat P false, s2, s3, s4, s5, s6, s7, .dat x false] = .nx [.dat (.int n) false, .dat P false, s2, s3, s4, s5, s6, s7, .dat x false] := by
  have hb : isntD (.bool false) (.bool false) = .ok (.bool false) := rfl
  simp [b__law_rings_right_0, h, hb]
theorem v__law_rings_right (k n : Nat) (hn : n ≤ 16) (P : List NP) (hP : ∀ p ∈ P, OvP n p) (ha : AscA leN P) (hl : P.length ≤ 100) : Ev (k + 5) f__law_rings_right [.int n, pvD P, valI n (GF (St n P))] = .ok (.bool true) := by
  refine (e__law_rings_right (k + 4) _).trans ?_
  have hU : ∀ u ∈ unsL n (St n P), u < n := by
    intro u hu
    have := (List.mem_filter.mp hu).1
    simpa using this
  have hup : ∀ v ∈ unsL n (St n P), ∃ u ∈ unsL n (St n P), (u, v) ∈ P := by
    intro v hv
    obtain ⟨h1, h2⟩ := List.mem_filter.mp hv
    have h1 : v < n := by simpa using h1
    have h2 : St n P v = none := by simpa using h2
    obtain ⟨u, hu, hn2⟩ := ((St_rules n P).un v h1 h2).2
    refine ⟨u, List.mem_filter.mpr ⟨by simpa using (ups_lt hP hu).1, by rw [hn2]; rfl⟩, ?_⟩
    obtain ⟨p, hp, rfl⟩ := List.mem_map.mp hu
    obtain ⟨g1, g2⟩ := List.mem_filter.mp hp
    have g2 : p.2 = v := by simpa using g2
    rw [← g2]
    exact g1
  have b1 := v__law_ring (k + 2) n hn P ha hl (unsL n (St n P)) hU
  have b2 := v_ring_of k n hn P ha hl
  have b3 : ∀ c : List Nat, c ≠ [] → c.length ≤ 1000 → (∀ x ∈ c, x ∈ unsL n (St n P)) → Ev (k + 4) f_is_override_ring [.int n, pvD P, nlD c] = .ok (.bool (ringOk P c)) := fun c h0 h1 h2 => v_isr k n hn P c h0 h1 h2
  have b4 : ∀ V : List PyData, (∃ d ∈ V, inU (unsL n (St n P)) d = false) → Ev (k + 4) f_is_override_ring [.int n, pvD P, .list V] = .ok (.bool false) := fun V h => v_isr_bad k n hn P V h
  have b5 : ∀ d : PyData, (∀ ds, d ≠ .list ds) → Ev (k + 4) f_is_override_ring [.int n, pvD P, d] = .ok (.bool false) := fun d h => v_isr_no (k + 3) n P h
  have b6 : Ev (k + 4) f_is_override_ring [.int n, pvD P, .list []] = .ok (.bool false) := v_isr_nil (k + 3) n P
  have b7 : ∀ c : List Nat, c.length ≤ 1000 → Ev (k + 4) f__law_equal [nlD c, nlD c] = .ok (.bool true) := fun c h => v_equal 2 (k + 2) _ (plain_lst (by rw [List.length_map]; omega) fun d hd => by
    obtain ⟨x, _, rfl⟩ := List.mem_map.mp hd
    rfl)
  have hq := fun Φ => compL_on natD (fun m => (St n P m).isNone) natD (i := 4) (t := q__law_rings_right_0 Φ) (e := c__law_rings_right_0 Φ) (ρ := [.dat (.int n) false, .dat (pvD P) false, .dat (valI n (GF (St n P))) false, .no, .no, .no, .no, .no, .no]) (l := List.range n) (by
    intro m hm
    have hm : m < n := by simpa using hm
    have h2 := val_at (G := GF (St n P)) hm
    have h3 := rI_0 (GF (St n P) m)
    rw [← GF_is]
    generalize rwI (GF (St n P) m) = Y at *
    generalize valI n (GF (St n P)) = V at *
    generalize pvD P = PD at *
    exact ⟨by simp [q__law_rings_right_0, natD, h2, h3], fun _ => by simp [c__law_rings_right_0]⟩)
  have hq := hq (Ev (k + 4))
  have bl := best_least hn hU ha
  have eU : ((List.range n).filter fun m => (St n P m).isNone) = unsL n (St n P) := rfl
  rw [eU] at hq
  generalize unsL n (St n P) = U at *
  generalize Ev (k + 4) = Φ at *
  have hr := cRange1_nat (n := n) (a := cVarB 0) (ρ := [.dat (.int n) false, .dat (pvD P) false, .dat (valI n (GF (St n P))) false, .no, .no, .no, .no, .no, .no]) (by simp) (by omega)
  have s1 : disow [4] (sSet 3 false (cComp (cRange1 (cVarB 0)) [4] (.one 4) (q__law_rings_right_0 Φ) (c__law_rings_right_0 Φ))) [.dat (.int n) false, .dat (pvD P) false, .dat (valI n (GF (St n P))) false, .no, .no, .no, .no, .no, .no] = .nx [.dat (.int n) false, .dat (pvD P) false, .dat (valI n (GF (St n P))) false, .dat (nlD U) false, .no, .no, .no, .no, .no] := by
    unfold nlD
    generalize hR : (List.range n).map natD = L at hr hq
    generalize U.map natD = UL at *
    generalize valI n (GF (St n P)) = V at *
    generalize pvD P = PD at *
    simp [-cRange1_ap, hr, hq]
  generalize valI n (GF (St n P)) = V at *
  rw [run_of (ρ := [.dat (.int n) false, .dat (pvD P) false, .dat V false, .no, .no, .no, .no, .no, .no]) rfl rfl]
  unfold t__law_rings_right
  rw [seq_nx s1]
  clear s1 hr hq
  have hlen : ∀ c : List Nat, lenD (nlD c) = .ok (.int c.length) := fun c => by show R.ok (PyData.int ((c.map natD).length : Nat)) = _; rw [List.length_map]
  have tb : isntD (.bool true) (.bool true) = .ok (.bool false) := rfl
  have fb : isD (.bool false) (.bool false) = .ok (.bool true) := rfl
  rcases bl with ⟨G, hb, hG⟩ | ⟨hb, hno⟩
  · rw [hb] at b1 b2
    have b1 : Φ f__law_ring [pvD P, nlD U] = .ok (nlD G) := b1
    have b2 : Φ f_ring_of [.int n, pvD P] = .ok (nlD G) := b2
    obtain ⟨g0, gU, gok⟩ := least_ring hG
    have gl : G.length ≤ 16 := by
      unfold ringOk at gok
      rw [Bool.and_eq_true] at gok
      have := nodup_lt n G (of_decide_eq_true gok.1) fun x hx => hU x (gU x hx)
      omega
    have l1 := hlen G
    -- at least two numbers
    obtain ⟨x, y, r, rfl⟩ : ∃ x y r, G = x :: y :: r := by
      match G, g0 with
      | [x], _ =>
        exfalso
        unfold ringOk at gok
        rw [Bool.and_eq_true] at gok
        have e := edge_iff.mp gok.2 0 (by simp)
        have e : (x, x) ∈ P := e
        exact (hP _ e).2.2 rfl
      | x :: y :: r, _ => exact ⟨x, y, r, rfl⟩
    rw [seq_nx (ρ' := [.dat (.int n) false, .dat (pvD P) false, .dat V false, .dat (nlD U) false, .no, .dat (nlD (x :: y :: r)) false, .no, .no, .no]) (by
      generalize nlD (x :: y :: r) = GD at *
      generalize nlD U = UD at *
      generalize pvD P = PD at *
      simp [b1])]
    rw [seq_nx (ρ' := [.dat (.int n) false, .dat (pvD P) false, .dat V false, .dat (nlD U) false, .no, .dat (nlD (x :: y :: r)) false, .dat (nlD (x :: y :: r)) false, .no, .no]) (by
      generalize nlD (x :: y :: r) = GD at *
      generalize nlD U = UD at *
      generalize pvD P = PD at *
      simp [b2])]
    rw [seq_nx (ρ' := [.dat (.int n) false, .dat (pvD P) false, .dat V false, .dat (nlD U) false, .no, .dat (nlD (x :: y :: r)) false, .dat (nlD (x :: y :: r)) false, .no, .no]) (by
      have hne : ¬ (((x :: y :: r).length : Nat) : Int) = 0 := by simp; omega
      generalize (x :: y :: r).length = gl' at *
      generalize nlD (x :: y :: r) = GD at *
      generalize nlD U = UD at *
      generalize pvD P = PD at *
      have hne2 : ¬ gl' = 0 := by omega
      simp [l1, hne, hne2])]
    have q1 := b7 (x :: y :: r) (by omega)
    rw [seq_nx (ρ' := [.dat (.int n) false, .dat (pvD P) false, .dat V false, .dat (nlD U) false, .no, .dat (nlD (x :: y :: r)) false, .dat (nlD (x :: y :: r)) false, .no, .no]) (by
      generalize nlD (x :: y :: r) = GD at *
      generalize nlD U = UD at *
      generalize pvD P = PD at *
      simp [q1])]
    have z0 : sizeLine = 16777216 := rfl
    have eG : nlD (x :: y :: r) = .list (natD x :: natD y :: r.map natD) := rfl
    have eT : nlD (y :: r ++ [x]) = .list (natD y :: r.map natD ++ [natD x]) := by unfold nlD; rw [List.map_append]; rfl
    have hrl : r.length ≤ 14 := by simp at gl; omega
    have cd : cutD (natD x :: natD y :: r.map natD) (some 1) none = natD y :: r.map natD := cutD_from _ 1
    have ct : cutD (natD x :: natD y :: r.map natD) none (some 1) = [natD x] := cutD_to _ 1
    have ad0 : addD (.list (natD y :: r.map natD)) (.list [natD x]) = .ok (.list (natD y :: r.map natD ++ [natD x])) := addL _ _ (by simp; omega)
    rw [seq_nx (ρ' := [.dat (.int n) false, .dat (pvD P) false, .dat V false, .dat (nlD U) false, .no, .dat (nlD (x :: y :: r)) false, .dat (nlD (x :: y :: r)) false, .dat (nlD (y :: r ++ [x])) true, .no]) (by
      rw [eG, eT]
      generalize nlD U = UD at *
      generalize pvD P = PD at *
      generalize natD y :: r.map natD ++ [natD x] = TT at *
      generalize natD y :: r.map natD = DD at *
      simp [cd, ct, ad0])]
    have r1 := b3 (x :: y :: r) (by simp) (by omega) gU
    rw [gok] at r1
    have r2 := b3 (y :: r ++ [x]) (by simp) (by simp; omega) (by
      intro v hv
      apply gU
      rcases List.mem_append.mp hv with hv | hv
      · exact List.mem_cons_of_mem _ hv
      · rw [List.mem_singleton.mp hv]; exact List.mem_cons_self)
    rw [turn_ok gok] at r2
    rw [seq_nx (ρ' := [.dat (.int n) false, .dat (pvD P) false, .dat V false, .dat (nlD U) false, .no, .dat (nlD (x :: y :: r)) false, .dat (nlD (x :: y :: r)) false, .dat (nlD (y :: r ++ [x])) true, .no]) (by
      generalize nlD (x :: y :: r) = GD at *
      generalize nlD (y :: r ++ [x]) = TD at *
      generalize nlD U = UD at *
      generalize pvD P = PD at *
      simp [r1, r2, tb])]
    -- the wrong ones
    have wr : ∀ w ∈ ([.tuple (natD x :: natD y :: r.map natD), .list ((natD x :: natD y :: r.map natD) ++ (natD x :: natD y :: r.map natD)), .list (natD y :: r.map natD), .list ((natD x :: natD y :: r.map natD) ++ [.int n]), .list [], .none, .list (.none :: natD y :: r.map natD), .list ((natD x :: natD y :: r.map natD) ++ [.int (-1)])] : List PyData), Φ f_is_override_ring [.int n, pvD P, w] = .ok (.bool false) := by
      intro w hw
      simp only [List.mem_cons, List.not_mem_nil, or_false] at hw
      rcases hw with rfl | rfl | rfl | rfl | rfl | rfl | rfl | rfl
      · exact b5 _ (by intro ds h; cases h)
      · have e : PyData.list ((natD x :: natD y :: r.map natD) ++ (natD x :: natD y :: r.map natD)) = nlD ((x :: y :: r) ++ (x :: y :: r)) := by unfold nlD; rw [List.map_append]; rfl
        rw [e, b3 _ (by simp) (by simp; omega) (by
          intro v hv
          rcases List.mem_append.mp hv with hv | hv <;> exact gU v hv)]
        have : ringOk P ((x :: y :: r) ++ (x :: y :: r)) = false := by
          unfold ringOk
          rw [decide_eq_false]
          · rfl
          · intro hnd
            exact (List.nodup_append.mp hnd).2.2 x List.mem_cons_self x List.mem_cons_self rfl
        rw [this]
      · have e : PyData.list (natD y :: r.map natD) = nlD (y :: r) := rfl
        rw [e, b3 _ (by simp) (by simp; omega) (fun v hv => gU v (List.mem_cons_of_mem _ hv))]
        have : ringOk P (y :: r) = false := by
          rw [← Bool.not_eq_true]
          intro hc
          unfold ringOk at hc
          rw [Bool.and_eq_true] at hc
          have := least_le hG (c := y :: r) (by simp) (fun v hv => gU v (List.mem_cons_of_mem _ hv)) hc.2
          simp only [List.length_cons] at this
          omega
        rw [this]
      · refine b4 _ ⟨.int n, by simp, ?_⟩
        have : ¬ n ∈ U := fun z => absurd (hU n z) (Nat.lt_irrefl n)
        simp [inU, this]
      · exact b6
      · exact b5 _ (by intro ds h; cases h)
      · exact b4 _ ⟨.none, by simp, rfl⟩
      · refine b4 _ ⟨.int (-1), by simp, ?_⟩
        simp [inU]
    obtain ⟨y8, gw⟩ := forL_same (fun d : PyData => d) (fun y8 => [.dat (.int n) false, .dat (pvD P) false, .dat V false, .dat (nlD U) false, .no, .dat (nlD (x :: y :: r)) false, .dat (nlD (x :: y :: r)) false, .dat (nlD (y :: r ++ [x])) true, y8]) (i := 8) (b := b__law_rings_right_0 Φ) [.tuple (natD x :: natD y :: r.map natD), .list ((natD x :: natD y :: r.map natD) ++ (natD x :: natD y :: r.map natD)), .list (natD y :: r.map natD), .list ((natD x :: natD y :: r.map natD) ++ [.int n]), .list [], .none, .list (.none :: natD y :: r.map natD), .list ((natD x :: natD y :: r.map natD) ++ [.int (-1)])] (fun x y => rfl) (by
      intro w hw
      exact u_rings_wrong Φ w (pvD P) n (wr w hw) _ _ _ _ _ _) .no
    rw [List.map_id'] at gw
    have s8 : disow [0] (sFor (cItE (cLst [c1 tupleD (cVarB 5), c2 addD (cVarB 5) (cVarB 5), cSl (cVarB 5) (some (cK (.int 1))) none, c2 addD (cVarB 5) (cLst [cVar 0]), cLst [], cK .none, c2 addD (cLst [cK .none]) (cSl (cVarB 5) (some (cK (.int 1))) none), c2 addD (cVarB 5) (cLst [c1 negD (cK (.int 1))])])) (.one 8) (b__law_rings_right_0 Φ)) [.dat (.int n) false, .dat (pvD P) false, .dat V false, .dat (nlD U) false, .no, .dat (nlD (x :: y :: r)) false, .dat (nlD (x :: y :: r)) false, .dat (nlD (y :: r ++ [x])) true, .no] = .nx [.dat (.int n) false, .dat (pvD P) false, .dat V false, .dat (nlD U) false, .no, .dat (nlD (x :: y :: r)) false, .dat (nlD (x :: y :: r)) false, .dat (nlD (y :: r ++ [x])) true, y8] := by
      have e : disL [0] [.dat (.int n) false, .dat (pvD P) false, .dat V false, .dat (nlD U) false, .no, .dat (nlD (x :: y :: r)) false, .dat (nlD (x :: y :: r)) false, .dat (nlD (y :: r ++ [x])) true, .no] = [.dat (.int n) false, .dat (pvD P) false, .dat V false, .dat (nlD U) false, .no, .dat (nlD (x :: y :: r)) false, .dat (nlD (x :: y :: r)) false, .dat (nlD (y :: r ++ [x])) true, .no] := rfl
      rw [disow_ap, e]
      refine for_nx ?_ gw
      have ad1 : addD (.list (natD x :: natD y :: r.map natD)) (.list (natD x :: natD y :: r.map natD)) = .ok (.list ((natD x :: natD y :: r.map natD) ++ (natD x :: natD y :: r.map natD))) := addL _ _ (by simp; omega)
      have ad2 : ∀ d, addD (.list (natD x :: natD y :: r.map natD)) (.list [d]) = .ok (.list ((natD x :: natD y :: r.map natD) ++ [d])) := fun d => addL _ _ (by simp; omega)
      have ad3 : addD (.list [.none]) (.list (natD y :: r.map natD)) = .ok (.list (.none :: natD y :: r.map natD)) := addL _ _ (by simp; omega)
      rw [eG]
      generalize natD y :: r.map natD = DD at *
      generalize hGG : natD x :: DD = GG at *
      generalize nlD (y :: r ++ [x]) = TD at *
      generalize nlD U = UD at *
      generalize pvD P = PD at *
      simp [cd, ad1, ad2, ad3]
    rw [seq_nx s8]
    by_cases h2 : r = []
    · subst h2
      have h2' : lenD (nlD [x, y]) = .ok (.int 2) := rfl
      generalize nlD [x, y] = GD at *
      generalize nlD (y :: [] ++ [x]) = TD at *
      generalize nlD U = UD at *
      generalize pvD P = PD at *
      simp [h2']
    · obtain ⟨z, r, rfl⟩ : ∃ z r', r = z :: r' := by
        cases r with
        | nil => exact absurd rfl h2
        | cons z r => exact ⟨z, r, rfl⟩
      have h3 : ¬ (((x :: y :: z :: r).length : Nat) : Int) = 2 := by simp; omega
      have r3 := b3 (x :: y :: z :: r).reverse (by simp) (by simp only [List.length_reverse, List.length_cons] at hrl ⊢; omega) (by
        intro v hv
        exact gU v (List.mem_reverse.mp hv))
      rw [back_no hG gU gok] at r3
      have e : nlD (x :: y :: z :: r).reverse = .list ((natD x :: natD y :: (z :: r).map natD).reverse) := by
        unfold nlD
        rw [List.map_reverse]; rfl
      rw [e] at r3
      have er : revD (nlD (x :: y :: z :: r)) = .ok (.list ((natD x :: natD y :: (z :: r).map natD).reverse)) := rfl
      have h3' : ¬ (x :: y :: z :: r).length = 2 := by simp
      generalize (x :: y :: z :: r).length = gl' at *
      generalize (natD x :: natD y :: (z :: r).map natD).reverse = RV at *
      generalize nlD (x :: y :: z :: r) = GD at *
      generalize nlD (y :: z :: r ++ [x]) = TD at *
      generalize nlD U = UD at *
      generalize pvD P = PD at *
      simp [l1, h3, h3', er, r3, fb]
  · rw [hb] at b1 b2
    have b1 : Φ f__law_ring [pvD P, nlD U] = .ok (.list []) := b1
    have b2 : Φ f_ring_of [.int n, pvD P] = .ok .none := b2
    have hU0 : U = [] := by
      cases hu : U with
      | nil => rfl
      | cons t r =>
        exfalso
        obtain ⟨v, hv, j, hj, hw⟩ := some_ring hU hup t (by rw [hu]; exact List.mem_cons_self)
        exact hno v hv j hj hw
    have lU : lenD (nlD U) = .ok (.int 0) := by rw [hU0]; rfl
    generalize nlD U = UD at *
    generalize pvD P = PD at *
    simp [b1, b2, lU, b6, fb]
end Pv.K44


namespace Pv.K44
open PySem PySem.Spec L2
open PyProof.Rows hiding St

/-! ### contracts, struck -/
def nT (l : List Int) : PyData := .tuple (l.map .int)
structure Cl where
  kd : Str
  ac : Str
  dy : Int
  dn : List Int
  lp : List Int
def Cl.d (c : Cl) : PyData := .tuple [.str c.kd, .str "ann", .str c.ac, .int c.dy, nT c.dn, nT c.lp]
structure Ct where
  cs : List Cl
  op : List Int
def Ct.d (c : Ct) : PyData := .tuple [.tuple (c.cs.map Cl.d), nT c.op]
def Asc (lim : Int) (l : List Int) : Prop := SAsc l ∧ ∀ n ∈ l, 0 ≤ n ∧ n < lim
structure Ct.Ok (c : Ct) : Prop where
  few : c.cs.length ≤ 16
  cl : ∀ x ∈ c.cs, Asc c.cs.length x.dn ∧ Asc c.cs.length x.lp
  op : Asc c.cs.length c.op
theorem sasc_A {l : List Int} (h : SAsc l) : AscA leI l := h.imp fun {a b} hab => ⟨decide_eq_true (by omega), by omega⟩
theorem asc_len {lim : Nat} {l : List Int} (h : Asc lim l) : l.length ≤ lim := by
  have : ∀ (l : List Int) (a : Int), SAsc l → (∀ n ∈ l, a ≤ n ∧ n < lim) → a + l.length ≤ max a lim := by
    intro l
    induction l with
    | nil => intro a _ _; simp; omega
    | cons x l ih =>
      intro a h1 h2
      obtain ⟨h3, h4⟩ := List.pairwise_cons.mp h1
      have hx := h2 x List.mem_cons_self
      have := ih (x + 1) h4 fun n hn => ⟨by have := h3 n hn; omega, (h2 n (List.mem_cons_of_mem _ hn)).2⟩
      simp
      omega
  have := this l 0 h.1 h.2
  omega
/-! is_numbers -/
theorem u_nums_loop (Φ : Ph) (hi : ∀ d, Φ f_is_integer [d] = .ok (.bool (intdB d))) (V : Sl) (lim : Int) : ∀ (l : List Int) (least : Int) (w : Sl), SAsc l → (∀ n ∈ l, least ≤ n ∧ n < lim) → ∃ ρ', forL (.one 3) (b_is_numbers_0 Φ) (l.map .int) [V, .dat (.int lim) false, .dat (.int least) false, w] = .nx ρ'
  | [], least, w, _, _ => ⟨_, rfl⟩
  | n :: l, least, w, h1, h2 => by
    obtain ⟨g1, g2⟩ := List.pairwise_cons.mp h1
    obtain ⟨a, b⟩ := h2 n List.mem_cons_self
    have h0 := hi (.int n)
    obtain ⟨ρ', e⟩ := u_nums_loop Φ hi V lim l (n + 1) (.dat (.int n) false) g2 fun m hm => ⟨by have := g1 m hm; omega, (h2 m (List.mem_cons_of_mem _ hm)).2⟩
    refine ⟨ρ', ?_⟩
    have hb : b_is_numbers_0 Φ [V, .dat (.int lim) false, .dat (.int least) false, .dat (.int n) false] = .nx [V, .dat (.int lim) false, .dat (.int (n + 1)) false, .dat (.int n) false] := by
      simp [b_is_numbers_0, h0, intdB, a, b]
    rw [List.map_cons, forL_cons, tgSet_one]
    show (match b_is_numbers_0 Φ [V, .dat (.int lim) false, .dat (.int least) false, .dat (.int n) false] with | .nx ρ' => forL (.one 3) (b_is_numbers_0 Φ) (l.map .int) ρ' | .ct ρ' => _ | .bk ρ' => _ | r => r) = _
    rw [hb]
    exact e
theorem v_is_numbers (k : Nat) {l : List Int} {lim : Int} (h : Asc lim l) : Ev (k + 2) f_is_numbers [nT l, .int lim] = .ok (.bool true) := by
  refine (e_is_numbers (k + 1) _).trans ?_
  have h0 := fun d => v_is_integer k d
  generalize Ev (k + 1) = Φ at h0
  obtain ⟨ρ', e⟩ := u_nums_loop Φ h0 (.dat (nT l) false) lim l 0 .no h.1 h.2
  unfold nT at *
  generalize l.map PyData.int = L at *
  simp [t_is_numbers, e]
theorem v_size (k : Nat) (c : Ct) : Ev (k + 1) f_size [c.d] = .ok (.int c.cs.length) := by
  refine (e_size k _).trans ?_
  simp [t_size, Ct.d]
theorem v_distinct_asc (k : Nat) (l : List Int) (h : SAsc l) (hl : l.length ≤ 1000) : Ev (k + 1) f_distinct [.list (l.map .int)] = .ok (nT l) := by
  rw [v_distA encI k l hl (.inl rfl), distA_asc (sasc_A h)]
  rfl
theorem v_merge (k : Nat) (l : List Int) (h : SAsc l) (hl : l.length ≤ 1000) : Ev (k + 2) f_merge [.list (l.map .int), .tuple []] = .ok (nT l) := by
  refine (e_merge (k + 1) _).trans ?_
  have ha : addD (.list (l.map .int)) (.list []) = .ok (.list (l.map .int)) := by
    rw [addL _ _ (by simp [sizeLine]; omega), List.append_nil]
  have h1 := v_distinct_asc k l h hl
  generalize Ev (k + 1) = Φ at *
  generalize l.map PyData.int = L at *
  simp [t_merge, ha, h1]
/-! new numbers -/
def rl (T : Int → Int) (l : List Int) : List Int := (l.filter fun n => decide (0 ≤ T n)).map T
theorem rl_len (T : Int → Int) (l : List Int) : (rl T l).length ≤ l.length := by
  unfold rl
  rw [List.length_map]
  exact List.length_filter_le ..
theorem v_new_numbers (k : Nat) (l : List Int) (tb : PyData) (T : Int → Int) (h1 : ∀ n ∈ l, ixD tb (.int n) = .ok (.int (T n))) (h2 : SAsc (rl T l)) (h3 : l.length ≤ 1000) : Ev (k + 3) f_new_numbers [nT l, tb] = .ok (nT (rl T l)) := by
  refine (e_new_numbers (k + 2) _).trans ?_
  have hv := v_merge k (rl T l) h2 (Nat.le_trans (rl_len T l) h3)
  generalize Ev (k + 2) = Φ at *
  have hc := compL_on PyData.int (fun n => decide (0 ≤ T n)) (fun n => .int (T n)) (i := 2) (t := q_new_numbers_0 Φ) (e := c_new_numbers_0 Φ) (ρ := [.dat (nT l) false, .dat tb false, .no]) (l := l) (by
    intro n hn
    constructor
    · simp [q_new_numbers_0, h1 n hn]
    · intro _; simp [c_new_numbers_0, h1 n hn])
  have e : (l.filter fun n => decide (0 ≤ T n)).map (fun n => PyData.int (T n)) = (rl T l).map .int := by unfold rl; rw [List.map_map]; rfl
  rw [e] at hc
  have hn : isNoneD (nT l) = false := rfl
  have ei : itD (nT l) = .ok (l.map .int) := rfl
  generalize (rl T l).map PyData.int = RL at *
  generalize nT l = NL at *
  generalize l.map PyData.int = LL at *
  simp [t_new_numbers, hn, ei, hc, hv]
theorem cut4 (a b c d e f : PyData) : cutD [a, b, c, d, e, f] none (some 4) = [a, b, c, d] := cutD_to _ 4
theorem ix4 (a b c d e f : PyData) : ixD (.tuple [a, b, c, d, e, f]) (.int 4) = .ok e := ixT_nat (i := 4) rfl
theorem ix5 (a b c d e f : PyData) : ixD (.tuple [a, b, c, d, e, f]) (.int 5) = .ok f := ixT_nat (i := 5) rfl
theorem add42 (a b c d e f : PyData) : addD (.tuple [a, b, c, d]) (.tuple [e, f]) = .ok (.tuple [a, b, c, d, e, f]) := addT _ _ (show 6 ≤ sizeLine by decide)
def Cl.relink (c : Cl) (T : Int → Int) : Cl := { c with dn := rl T c.dn, lp := rl T c.lp }
theorem v_relinked (k : Nat) (c : Cl) (tb : PyData) (T : Int → Int) (h1 : (∀ n ∈ c.dn, ixD tb (.int n) = .ok (.int (T n))) ∧ SAsc (rl T c.dn) ∧ c.dn.length ≤ 1000) (h2 : (∀ n ∈ c.lp, ixD tb (.int n) = .ok (.int (T n))) ∧ SAsc (rl T c.lp) ∧ c.lp.length ≤ 1000) : Ev (k + 4) f_relinked [c.d, tb] = .ok (c.relink T).d := by
  refine (e_relinked (k + 3) _).trans ?_
  have a1 := v_new_numbers k c.dn tb T h1.1 h1.2.1 h1.2.2
  have a2 := v_new_numbers k c.lp tb T h2.1 h2.2.1 h2.2.2
  generalize Ev (k + 3) = Φ at *
  have e : (c.relink T).d = .tuple [.str c.kd, .str "ann", .str c.ac, .int c.dy, nT (rl T c.dn), nT (rl T c.lp)] := rfl
  have hn : ∀ l, isL (nT l) = false := fun l => rfl
  rw [e]
  unfold Cl.d
  have n1 := hn (rl T c.dn)
  have n2 := hn (rl T c.lp)
  generalize nT (rl T c.dn) = X1 at *
  generalize nT (rl T c.lp) = X2 at *
  generalize nT c.dn = X3 at *
  generalize nT c.lp = X4 at *
  simp [t_relinked, ix4, ix5, a1, a2, cut4, add42]
/-! the table of the kept numbers -/
def rk (kp l : List Int) : List Int := (l.filter fun n => decide (n ∈ kp)).map fun n => (kp.idxOf n : Int)
def ixk (kp : List Int) (n : Int) : Int := if n ∈ kp then (kp.idxOf n : Int) else -1
theorem rl_rk (kp l : List Int) : rl (ixk kp) l = rk kp l := by
  unfold rl rk
  have e : (fun n => decide (0 ≤ ixk kp n)) = fun n => decide (n ∈ kp) := by
    funext n
    unfold ixk
    by_cases h : n ∈ kp <;> simp [h]
  rw [e]
  apply List.map_congr_left
  intro n hn
  have : n ∈ kp := by simpa using (List.mem_filter.mp hn).2
  unfold ixk
  rw [if_pos this]
theorem idx_mono {kp : List Int} (h : SAsc kp) {a b : Int} (ha : a ∈ kp) (hb : b ∈ kp) (hab : a < b) : kp.idxOf a < kp.idxOf b := by
  have la := List.idxOf_lt_length_of_mem ha
  have lb := List.idxOf_lt_length_of_mem hb
  have ea : kp[kp.idxOf a] = a := List.getElem_idxOf la
  have eb : kp[kp.idxOf b] = b := List.getElem_idxOf lb
  rcases Nat.lt_trichotomy (kp.idxOf a) (kp.idxOf b) with g | g | g
  · exact g
  · exfalso
    have : kp[kp.idxOf a] = kp[kp.idxOf b] := by congr 1
    omega
  · have := List.pairwise_iff_getElem.mp h _ _ lb la g
    omega
theorem asc_rk {kp l : List Int} (hk : SAsc kp) (hl : SAsc l) : SAsc (rk kp l) := by
  unfold rk SAsc
  rw [List.pairwise_map]
  have := hl.filter fun n => decide (n ∈ kp)
  refine this.imp_of_mem ?_
  intro a b ha hb hab
  have h1 : a ∈ kp := by simpa using (List.mem_filter.mp ha).2
  have h2 : b ∈ kp := by simpa using (List.mem_filter.mp hb).2
  have := idx_mono hk h1 h2 hab
  omega
def Cl.keep (kp : List Int) (c : Cl) : Cl := { c with dn := rk kp c.dn, lp := rk kp c.lp }
def pickD (c : Ct) (kp : List Int) (n : Int) : PyData := match c.cs[n.toNat]? with
  | some x => (x.keep kp).d
  | none => .none
def keepD (c : Ct) (kp : List Int) : PyData := .tuple [.tuple (kp.map (pickD c kp)), nT (rk kp c.op)]
def tbl (kp : List Int) (n j : Nat) : List Int := (List.range n).map fun (m : Nat) => if (m : Int) ∈ kp.take j then (kp.idxOf (m : Int) : Int) else -1
theorem tbl_0 (kp : List Int) (n : Nat) : tbl kp n 0 = List.replicate n (-1) := by
  unfold tbl
  simp [List.map_const']
theorem tbl_get (kp : List Int) (n j m : Nat) : (tbl kp n j)[m]? = if m < n then some (if (m : Int) ∈ kp.take j then (kp.idxOf (m : Int) : Int) else -1) else none := by
  unfold tbl
  by_cases h : m < n <;> simp [h]
theorem tbl_step {kp : List Int} (h : SAsc kp) {n j : Nat} (hj : j < kp.length) (hb : 0 ≤ kp[j] ∧ kp[j] < n) : (tbl kp n j).set (kp[j]).toNat (j : Int) = tbl kp n (j + 1) := by
  have hnd : kp.Nodup := h.imp fun h => by omega
  have ht : ∀ m : Int, m ∈ kp.take (j + 1) ↔ (m ∈ kp.take j ∨ m = kp[j]) := by
    intro m
    have e := List.take_append_getElem hj
    rw [← e, List.mem_append, List.mem_singleton]
  apply List.ext_getElem?
  intro m
  rw [List.getElem?_set, tbl_get, tbl_get]
  by_cases hm : m < n
  · rw [if_pos hm, if_pos hm]
    by_cases e : (kp[j]).toNat = m
    · have e2 : (m : Int) = kp[j] := by omega
      have e3 : kp.idxOf kp[j] = j := hnd.idxOf_getElem j hj
      have e4 : (m : Int) ∈ kp.take (j + 1) := (ht _).mpr (.inr e2)
      rw [if_pos e, if_pos e4, e2, e3, if_pos (by simp [tbl]; omega)]
    · have e2 : ¬ (m : Int) = kp[j] := by omega
      rw [if_neg e]
      simp only [ht, e2, or_false]
  · rw [if_neg hm, if_neg hm]
    rw [if_neg (by omega)]
theorem tbl_full {kp : List Int} {n : Nat} {m : Int} (hm : 0 ≤ m ∧ m < n) {d : PyData} (hd : d = .list ((tbl kp n kp.length).map .int) ∨ d = .tuple ((tbl kp n kp.length).map .int)) : ixD d (.int m) = .ok (.int (ixk kp m)) := by
  obtain ⟨i, rfl⟩ := Int.eq_ofNat_of_zero_le hm.1
  refine ixS hd ?_
  unfold tbl ixk
  have hi : i < n := by omega
  simp [hi]
theorem u_renumbered (Φ : Ph) (c : Ct) (kp : List Int) (hc : c.Ok) (hk : Asc c.cs.length kp) (h16 : Φ f_size [c.d] = .ok (.int c.cs.length)) (h13 : ∀ x ∈ c.cs, Φ f_relinked [x.d, nT (tbl kp c.cs.length kp.length)] = .ok (x.keep kp).d) (h3 : Φ f_distinct [.list ((rk kp c.op).map .int)] = .ok (nT (rk kp c.op))) :
    runC (t_renumbered Φ) N_renumbered P_renumbered [c.d, nT kp] = .ok (keepD c kp) := by
  have hlen := asc_len hk
  have hfew := hc.few
  have hm := mul_rep (.int (-1)) c.cs.length (by omega)
  have hr := cRange1_nat (n := kp.length) (a := c1 lenD (cVarB 1)) (ρ := [.dat c.d false, .dat (nT kp) false, .dat (.list (List.replicate c.cs.length (.int (-1)))) true, .no, .no, .no, .no]) (by simp [nT]) (by omega)
  obtain ⟨ρ', h1, y, rfl⟩ := forL_inv natD (fun done ρ => ∃ y, ρ = [.dat c.d false, .dat (nT kp) false, .dat (.list ((tbl kp c.cs.length done.length).map .int)) true, y, .no, .no, .no]) (i := 3) (b := b_renumbered_0 Φ) (List.range kp.length) (by
    rintro done a rest ρ e ⟨y, rfl⟩
    obtain ⟨hj, rfl⟩ := range_at e
    have hb := hk.2 kp[done.length] (List.getElem_mem hj)
    have hi : ixD (nT kp) (.int (done.length : Int)) = .ok (.int kp[done.length]) := ixT_nat (by simp [hj])
    have hix : ixN (tbl kp c.cs.length done.length).length kp[done.length] = some (kp[done.length]).toNat := by
      unfold ixN
      rw [if_pos hb.1, if_pos (by simp [tbl]; omega)]
    have hset : ((tbl kp c.cs.length done.length).map PyData.int).set (kp[done.length]).toNat (.int (done.length : Int)) = (tbl kp c.cs.length (done.length + 1)).map .int := by
      rw [← tbl_step hk.1 hj hb, List.map_set]
    refine ⟨[.dat c.d false, .dat (nT kp) false, .dat (.list ((tbl kp c.cs.length (done ++ [done.length]).length).map .int)) true, .dat (natD done.length) false, .no, .no, .no], .inl ?_, _, rfl⟩
    simp [b_renumbered_0, natD, hi, hix, hset]) (ρ := [.dat c.d false, .dat (nT kp) false, .dat (.list (List.replicate c.cs.length (.int (-1)))) true, .no, .no, .no, .no]) ⟨.no, by rw [List.length_nil, tbl_0, List.map_replicate]⟩
  rw [List.length_range] at h1
  have a3 : ixD c.d (.int 0) = .ok (.tuple (c.cs.map Cl.d)) := ixT_0 ..
  have a4 : ixD c.d (.int 1) = .ok (.tuple (c.op.map .int)) := ixT_1 ..
  have hq := compL_on_all PyData.int (pickD c kp) (i := 5) (e := c_renumbered_0 Φ) (ρ := [.dat c.d false, .dat (nT kp) false, .dat (.list ((tbl kp c.cs.length kp.length).map .int)) true, y, .no, .no, .no]) (l := kp) (by
    intro n hn
    have hb := hk.2 n hn
    obtain ⟨i, rfl⟩ := Int.eq_ofNat_of_zero_le hb.1
    have hi : i < c.cs.length := by omega
    have a1 : ixD (.tuple (c.cs.map Cl.d)) (.int i) = .ok (c.cs[i]).d := ixT_nat (by simp [hi])
    have a2 := h13 _ (List.getElem_mem hi)
    have ep : pickD c kp i = (c.cs[i].keep kp).d := by
      unfold pickD
      have : c.cs[(i : Int).toNat]? = some c.cs[i] := List.getElem?_eq_getElem hi
      rw [this]
    rw [ep]
    unfold nT at a2
    generalize (c.cs[i].keep kp).d = X at *
    generalize c.cs[i].d = Y at *
    simp [c_renumbered_0, a3, a1, a2])
  have hp := fun Y => compL_on PyData.int (fun n => decide (0 ≤ ixk kp n)) (fun n => .int (ixk kp n)) (i := 5) (t := q_renumbered_0 Φ) (e := c_renumbered_1 Φ) (ρ := [.dat c.d false, .dat (nT kp) false, .dat (.list ((tbl kp c.cs.length kp.length).map .int)) true, y, .dat Y false, .no, .no]) (l := c.op) (by
    intro n hn
    have a1 : ixD (.list ((tbl kp c.cs.length kp.length).map .int)) (.int n) = .ok (.int (ixk kp n)) := tbl_full (hc.op.2 n hn) (.inl rfl)
    constructor
    · simp [q_renumbered_0, a1]
    · intro _; simp [c_renumbered_1, a1])
  have hrl : (c.op.filter fun n => decide (0 ≤ ixk kp n)).map (fun n => PyData.int (ixk kp n)) = (rk kp c.op).map .int := by
    rw [← rl_rk, rl, List.map_map]; rfl
  rw [hrl] at hp
  have s1 : disow [] (sSet 2 true (c2 mulD (cLst [c1 negD (cK (.int 1))]) (cCall Φ f_size [cVarB 0] [some 0]))) [.dat c.d false, .dat (nT kp) false, .no, .no, .no, .no, .no] = .nx [.dat c.d false, .dat (nT kp) false, .dat (.list (List.replicate c.cs.length (.int (-1)))) true, .no, .no, .no, .no] := by
    have q1 : cLst [c1 negD (cK (.int 1))] [.dat c.d false, .dat (nT kp) false, .no, .no, .no, .no, .no] = .ok (.list [.int (-1)]) := by simp
    have q2 : cCall Φ f_size [cVarB 0] [some 0] [.dat c.d false, .dat (nT kp) false, .no, .no, .no, .no, .no] = .ok (.int c.cs.length) := by simp [h16]
    have q3 : c2 mulD (cLst [c1 negD (cK (.int 1))]) (cCall Φ f_size [cVarB 0] [some 0]) [.dat c.d false, .dat (nT kp) false, .no, .no, .no, .no, .no] = .ok (.list (List.replicate c.cs.length (.int (-1)))) := by
      rw [c2_ap, q1, R.bind_ok, q2, R.bind_ok, hm]
      rfl
    rw [disow_ap]
    exact set_ok q3
  have s3 : disow [] (sSet 4 false (c1 tupleD (cComp (cItE (cVarB 1)) [5] (.one 5) (tYesC) (c_renumbered_0 Φ)))) [.dat c.d false, .dat (nT kp) false, .dat (.list ((tbl kp c.cs.length kp.length).map .int)) true, y, .no, .no, .no] = .nx [.dat c.d false, .dat (nT kp) false, .dat (.list ((tbl kp c.cs.length kp.length).map .int)) true, y, .dat (.tuple (kp.map (pickD c kp))) false, .no, .no] := by
    simp only [nT] at hq ⊢
    simp [hq]
  have s4 : disow [] (sSet 6 false (cCall Φ f_distinct [cComp (cItE (c2 ixD (cVarB 0) (cK (.int 1)))) [5] (.one 5) (q_renumbered_0 Φ) (c_renumbered_1 Φ)] [none])) [.dat c.d false, .dat (nT kp) false, .dat (.list ((tbl kp c.cs.length kp.length).map .int)) true, y, .dat (.tuple (kp.map (pickD c kp))) false, .no, .no] = .nx [.dat c.d false, .dat (nT kp) false, .dat (.list ((tbl kp c.cs.length kp.length).map .int)) true, y, .dat (.tuple (kp.map (pickD c kp))) false, .no, .dat (nT (rk kp c.op)) false] := by
    simp [a4, hp, h3]
  have s5 : disow [4, 6] (sRet (cTup [cVar 4, cVar 6])) [.dat c.d false, .dat (nT kp) false, .dat (.list ((tbl kp c.cs.length kp.length).map .int)) true, y, .dat (.tuple (kp.map (pickD c kp))) false, .no, .dat (nT (rk kp c.op)) false] = .rt (keepD c kp) := by
    simp [keepD]
  have s2 := for_nx0 hr h1
  rw [run_of (ρ := [.dat c.d false, .dat (nT kp) false, .no, .no, .no, .no, .no]) rfl rfl]
  unfold t_renumbered
  rw [seq_nx s1, seq_nx s2, seq_nx s3, seq_nx s4, seq_rt s5, end_rt]
theorem v_renumbered (k : Nat) (c : Ct) (kp : List Int) (hc : c.Ok) (hk : Asc c.cs.length kp) : Ev (k + 5) f_renumbered [c.d, nT kp] = .ok (keepD c kp) := by
  refine (e_renumbered (k + 4) _).trans (u_renumbered _ c kp hc hk (v_size (k + 3) c) ?_ (v_distinct_asc (k + 3) _ (asc_rk hk.1 hc.op.1) ?_))
  · intro x hx
    obtain ⟨g1, g2⟩ := hc.cl x hx
    have key : ∀ l, Asc c.cs.length l → (∀ n ∈ l, ixD (nT (tbl kp c.cs.length kp.length)) (.int n) = .ok (.int (ixk kp n))) ∧ SAsc (rl (ixk kp) l) ∧ l.length ≤ 1000 := by
      intro l hl
      refine ⟨fun n hn => tbl_full (hl.2 n hn) (.inr rfl), ?_, Nat.le_trans (asc_len hl) (Nat.le_trans hc.few (by decide))⟩
      rw [rl_rk]
      exact asc_rk hk.1 hl.1
    have hv := v_relinked k x (nT (tbl kp c.cs.length kp.length)) (ixk kp) (key _ g1) (key _ g2)
    have hrr : x.relink (ixk kp) = x.keep kp := by
      unfold Cl.relink Cl.keep
      rw [rl_rk, rl_rk]
    rw [hrr] at hv
    exact hv
  · rw [← rl_rk]
    exact Nat.le_trans (rl_len _ _) (Nat.le_trans (asc_len hc.op) (Nat.le_trans hc.few (by decide)))
theorem u_kept_only (Φ : Ph) (c kp r : PyData) (n : Int) (h16 : Φ f_size [c] = .ok (.int n)) (h2 : Φ f_is_numbers [kp, .int n] = .ok (.bool true)) (h18 : Φ f_renumbered [c, kp] = .ok r) : runC (t_kept_only Φ) N_kept_only P_kept_only [c, kp] = .ok r := by
  simp [t_kept_only, h16, h2, h18]
theorem v_kept_only (k : Nat) (c : Ct) (kp : List Int) (hc : c.Ok) (hk : Asc c.cs.length kp) : Ev (k + 6) f_kept_only [c.d, nT kp] = .ok (keepD c kp) := by
  have a1 : Ev (k + 5) f_size [c.d] = .ok (.int c.cs.length) := v_size (k + 4) c
  have a2 : Ev (k + 5) f_is_numbers [nT kp, .int c.cs.length] = .ok (.bool true) := v_is_numbers (k := k + 3) hk
  exact (e_kept_only (k + 5) _).trans (u_kept_only (Ev (k + 5)) _ _ _ _ a1 a2 (v_renumbered k c kp hc hk))
def kpt (n : Nat) (l : List Int) : List Int := (upTo n).filter fun m => !decide (m ∈ l)
theorem asc_upTo (n : Nat) : Asc n (upTo n) := by
  unfold upTo
  constructor
  · unfold SAsc
    rw [List.pairwise_map]
    exact List.pairwise_lt_range.imp fun h => by simpa using h
  · intro m hm
    simp at hm
    obtain ⟨a, ha, rfl⟩ := hm
    omega
theorem asc_kpt (n : Nat) (l : List Int) : Asc n (kpt n l) := by
  obtain ⟨h1, h2⟩ := asc_upTo n
  exact ⟨h1.filter _, fun m hm => h2 m (List.mem_filter.mp hm).1⟩
theorem u_struck_all (Φ : Ph) (c : PyData) (l : List Int) (n : Nat) (r : PyData) (hn : n ≤ 1000) (h16 : Φ f_size [c] = .ok (.int n)) (h2 : Φ f_is_numbers [nT l, .int n] = .ok (.bool true)) (h19 : Φ f_kept_only [c, nT (kpt n l)] = .ok r) : runC (t_struck_all Φ) N_struck_all P_struck_all [c, nT l] = .ok r := by
  have hr := cRange1_nat (n := n) (a := cCall Φ f_size [cVarB 0] [some 0]) (ρ := [.dat c false, .dat (nT l) false, .no]) (by simp [h16]) (by omega)
  rw [natD_upTo] at hr
  have hq := compL_on PyData.int (fun m => !decide (m ∈ l)) PyData.int (i := 2) (t := q_struck_all_0 Φ) (e := c_struck_all_0 Φ) (ρ := [.dat c false, .dat (nT l) false, .no]) (l := upTo n) (by
    intro m hm
    have a1 := notInD_int m l
    constructor
    · simp [q_struck_all_0, nT, a1]
    · intro _; simp [c_struck_all_0])
  have h19' : Φ f_kept_only [c, .tuple (List.map PyData.int (List.filter (fun m => !decide (m ∈ l)) (upTo n)))] = .ok r := h19
  have s2 : disow [2] (sRet (cCall Φ f_kept_only [cVarB 0, c1 tupleD (cComp (cRange1 (cCall Φ f_size [cVarB 0] [some 0])) [2] (.one 2) (q_struck_all_0 Φ) (c_struck_all_0 Φ))] [some 0, none])) [.dat c false, .dat (nT l) false, .no] = .rt r := by
    simp [-cRange1_ap, hr, hq, h19']
  have s1 : sIf (cNotT (cTst (cCall Φ f_is_numbers [cVarB 1, cCall Φ f_size [cVarB 0] [some 0]] [some 1, none]))) (sSeq (disow [] (sRaise G "InvalidOrder" [cK (.str "not numbers of clauses")])) (sNx)) (sNx) [.dat c false, .dat (nT l) false, .no] = .nx [.dat c false, .dat (nT l) false, .no] := by
    simp [h16, h2]
  rw [run_of (ρ := [.dat c false, .dat (nT l) false, .no]) rfl rfl]
  unfold t_struck_all
  rw [seq_nx s1, seq_rt s2, end_rt]
theorem v_struck_all (k : Nat) (c : Ct) (l : List Int) (hc : c.Ok) (hl : Asc c.cs.length l) : Ev (k + 7) f_struck_all [c.d, nT l] = .ok (keepD c (kpt c.cs.length l)) := by
  have a1 : Ev (k + 6) f_size [c.d] = .ok (.int c.cs.length) := v_size (k + 5) c
  have a2 : Ev (k + 6) f_is_numbers [nT l, .int c.cs.length] = .ok (.bool true) := v_is_numbers (k := k + 4) hl
  exact (e_struck_all (k + 6) _).trans (u_struck_all (Ev (k + 6)) _ l _ _ (Nat.le_trans hc.few (by decide)) a1 a2 (v_kept_only k c _ hc (asc_kpt _ _)))
end Pv.K44


namespace Pv.K44
open PySem PySem.Spec L2
open PyProof.Rows hiding St

/-! ### consolidated -/
def isSt (F : Fd) (m : Nat) : Bool := (F m).any (·.1)
def isFa (F : Fd) (m : Nat) : Bool := (F m).any fun y => !y.1
theorem GF_isSt (F : Fd) (m : Nat) : decide ((GF F m).1 = "stands") = isSt F m := by
  unfold isSt
  cases h : F m with
  | none => rw [gf_n h]; exact decide_eq_false fun e => lab_ne.2.1 e.symm
  | some y =>
    obtain ⟨b, k⟩ := y
    cases b with
    | true => rw [gf_t h]; rfl
    | false => rw [gf_f h]; exact decide_eq_false fun e => lab_ne.1 e.symm
theorem GF_isFa (F : Fd) (m : Nat) : decide ((GF F m).1 = "falls") = isFa F m := by
  unfold isFa
  cases h : F m with
  | none => rw [gf_n h]; exact decide_eq_false fun e => lab_ne.2.2.1 e.symm
  | some y =>
    obtain ⟨b, k⟩ := y
    cases b with
    | true => rw [gf_t h]; exact decide_eq_false lab_ne.1
    | false => rw [gf_f h]; rfl
def stN (n : Nat) (F : Fd) : List Int := ((List.range n).filter (isSt F)).map Int.ofNat
def faN (n : Nat) (F : Fd) : List Int := ((List.range n).filter (isFa F)).map Int.ofNat
theorem asc_flt (n : Nat) (p : Nat → Bool) : Asc n (((List.range n).filter p).map Int.ofNat) := by
  constructor
  · unfold SAsc
    rw [List.pairwise_map]
    exact (List.pairwise_lt_range.filter _).imp fun h => by simpa using h
  · intro m hm
    obtain ⟨a, ha, rfl⟩ := List.mem_map.mp hm
    have := List.mem_range.mp (List.mem_filter.mp ha).1
    show 0 ≤ (a : Int) ∧ (a : Int) < n
    omega
theorem kpt_falls {n : Nat} {F : Fd} (h : unsL n F = []) : kpt n (faN n F) = stN n F := by
  unfold kpt upTo stN
  rw [List.filter_map]
  congr 1
  apply List.filter_congr
  intro m hm
  have hm' : m < n := by simpa using hm
  have hu : F m ≠ none := by
    intro e
    have : m ∈ unsL n F := List.mem_filter.mpr ⟨hm, by rw [e]; rfl⟩
    rw [h] at this
    cases this
  have hmem : (Int.ofNat m ∈ faN n F) ↔ isFa F m = true := by
    unfold faN
    rw [List.mem_map]
    constructor
    · rintro ⟨a, ha, e⟩
      have : a = m := Int.ofNat.inj e
      rw [← this]
      exact (List.mem_filter.mp ha).2
    · intro hf
      exact ⟨m, List.mem_filter.mpr ⟨hm, hf⟩, rfl⟩
  show (!decide (Int.ofNat m ∈ faN n F)) = isSt F m
  have e1 : isFa F m = !isSt F m := by
    unfold isSt isFa
    obtain ⟨⟨b, k⟩, hf⟩ := Option.ne_none_iff_exists'.mp hu
    rw [hf]
    cases b <;> rfl
  by_cases hs : isSt F m = true
  · rw [hs] at e1 ⊢
    rw [decide_eq_false (fun z => by rw [hmem.mp z] at e1; cases e1)]
    rfl
  · have hs : isSt F m = false := by simpa using hs
    rw [hs] at e1 ⊢
    rw [decide_eq_true (hmem.mpr e1)]
    rfl
theorem flt_head {p : Nat → Bool} : ∀ {n a : Nat} {r : List Nat}, (List.range n).filter p = a :: r → a < n ∧ p a = true ∧ ∀ j, j < a → p j = false := by
  intro n a r h
  have ha : a ∈ (List.range n).filter p := by rw [h]; exact List.mem_cons_self
  obtain ⟨h1, h2⟩ := List.mem_filter.mp ha
  have h1 : a < n := by simpa using h1
  refine ⟨h1, h2, fun j hj => ?_⟩
  cases hp : p j with
  | false => rfl
  | true =>
    exfalso
    have hjm : j ∈ (List.range n).filter p := List.mem_filter.mpr ⟨by simp; omega, hp⟩
    have hs : ((List.range n).filter p).Pairwise (· < ·) := List.pairwise_lt_range.filter _
    rw [h] at hjm hs
    rcases List.mem_cons.mp hjm with rfl | hjm
    · omega
    · have := (List.pairwise_cons.mp hs).1 j hjm
      omega
theorem u_cons_body (Φ : Ph) (n : Nat) (F : Fd) (m : Nat) (hm : m < n) (s0 s1 : Sl) : b_consolidated_0 Φ [s0, s1, .dat (valI n (GF F)) false, .dat (natD m) false] = if (F m).isNone = true then .exc "Unsettled" [natD m] [s0, s1, .dat (valI n (GF F)) false, .dat (natD m) false] else .nx [s0, s1, .dat (valI n (GF F)) false, .dat (natD m) false] := by
  have h2 := val_at (G := GF F) hm
  have h3 := rI_0 (GF F m)
  rw [← GF_is]
  generalize rwI (GF F m) = Y at *
  generalize valI n (GF F) = V at *
  unfold natD
  by_cases h : (GF F m).1 = "unsettled"
  · simp [b_consolidated_0, h2, h3, h, fl_uns]
  · simp [b_consolidated_0, h2, h3, h]
theorem v_cons_raise (k n : Nat) (hn : n ≤ 16) (P : List NP) (c : Ct) (hc : c.cs.length = n) {a : Nat} {r : List Nat} (hu : unsL n (St n P) = a :: r) : Ev (k + 3) f_consolidated [c.d, pvD P] = .exc "Unsettled" [natD a] := by
  refine (e_consolidated (k + 2) _).trans ?_
  have h0 := v_size (k + 1) c
  rw [hc] at h0
  have h1 := v_settle k n hn P
  rw [valD_I] at h1
  generalize Ev (k + 2) = Φ at *
  obtain ⟨u1, u2, u3⟩ := flt_head hu
  obtain ⟨l2, hl2⟩ := range_split u1
  have hb := fun m hm => u_cons_body Φ n (St n P) m hm (.dat c.d false) (.dat (pvD P) false)
  have b1 := hb a u1
  rw [u2, if_pos rfl] at b1
  have g := forL_stop natD (fun y => [.dat c.d false, .dat (pvD P) false, .dat (valI n (GF (St n P))) false, y]) (i := 3) (b := b_consolidated_0 Φ) (List.range a) l2 a _ (fun x y => rfl) (by
    intro i hi
    have hi : i < a := by simpa using hi
    have := hb i (by omega)
    rw [u3 i hi, if_neg (by simp)] at this
    exact this) b1 (.inr ⟨_, _, _, rfl⟩) .no
  rw [← hl2] at g
  have hll : lenD (valI n (GF (St n P))) = .ok (.int n) := by show R.ok (PyData.int ((rowsL n (GF (St n P))).length : Nat)) = _; rw [rowsL_len]
  have hr := cRange1_nat (n := n) (a := c1 lenD (cVarB 2)) (ρ := [.dat c.d false, .dat (pvD P) false, .dat (valI n (GF (St n P))) false, .no]) (by
    generalize valI n (GF (St n P)) = V at *
    simp [hll]) (by omega)
  generalize valI n (GF (St n P)) = V at *
  generalize c.d = D at *
  generalize pvD P = PD at *
  rw [run_of (ρ := [.dat D false, .dat PD false, .no, .no]) rfl rfl]
  unfold t_consolidated
  rw [seq_nx (ρ' := [.dat D false, .dat PD false, .dat V false, .no]) (by simp [h0, h1])]
  have s2 : disow [] (sFor (cRange1 (c1 lenD (cVarB 2))) (.one 3) (b_consolidated_0 Φ)) [.dat D false, .dat PD false, .dat V false, .no] = .exc "Unsettled" [natD a] [.dat D false, .dat PD false, .dat V false, .dat (natD a) false] := by
    rw [disow_ap]
    exact (for_of hr).trans g
  rw [seq_exc s2]
  rfl
theorem v_cons_ok (k n : Nat) (hn : n ≤ 16) (P : List NP) (c : Ct) (hc : c.Ok) (hcl : c.cs.length = n) (hu : unsL n (St n P) = []) : Ev (k + 8) f_consolidated [c.d, pvD P] = .ok (keepD c (stN n (St n P))) := by
  refine (e_consolidated (k + 7) _).trans ?_
  have h0 := v_size (k + 6) c
  rw [hcl] at h0
  have h1 := v_settle (k + 5) n hn P
  rw [valD_I] at h1
  have h4 := v_struck_all k c (faN n (St n P)) hc (by rw [hcl]; exact asc_flt n _)
  rw [hcl, kpt_falls hu] at h4
  generalize Ev (k + 7) = Φ at *
  have hb := fun m hm => u_cons_body Φ n (St n P) m hm (.dat c.d false) (.dat (pvD P) false)
  obtain ⟨ρ', g, y, hyc, rfl⟩ := forL_inv natD (fun _ ρ => ∃ y, Pv.Cl y ∧ ρ = [.dat c.d false, .dat (pvD P) false, .dat (valI n (GF (St n P))) false, y]) (i := 3) (b := b_consolidated_0 Φ) (List.range n) (by
    rintro done i rest ρ e ⟨y, _, rfl⟩
    have hi : i ∈ List.range n := by rw [e]; simp
    have hi' : i < n := by simpa using hi
    have := hb i hi'
    have hne : (St n P i).isNone = false := by
      cases h : (St n P i).isNone with
      | false => rfl
      | true =>
        have : i ∈ unsL n (St n P) := List.mem_filter.mpr ⟨hi, h⟩
        rw [hu] at this
        cases this
    rw [hne, if_neg (by simp)] at this
    exact ⟨_, .inl this, .dat (natD i) false, cl_dat _, rfl⟩) (ρ := [.dat c.d false, .dat (pvD P) false, .dat (valI n (GF (St n P))) false, .no]) ⟨.no, cl_no, rfl⟩
  have hll : lenD (valI n (GF (St n P))) = .ok (.int n) := by show R.ok (PyData.int ((rowsL n (GF (St n P))).length : Nat)) = _; rw [rowsL_len]
  have hr := fun y => cRange1_nat (n := n) (a := c1 lenD (cVarB 2)) (ρ := [.dat c.d false, .dat (pvD P) false, .dat (valI n (GF (St n P))) false, y]) (by
    generalize valI n (GF (St n P)) = V at *
    simp [hll]) (by omega)
  have hq := compL_on natD (isFa (St n P)) natD (i := 3) (t := q_consolidated_0 Φ) (e := c_consolidated_0 Φ) (ρ := [.dat c.d false, .dat (pvD P) false, .dat (valI n (GF (St n P))) false, .no]) (l := List.range n) (by
    intro m hm
    have hm : m < n := by simpa using hm
    have h2 := val_at (G := GF (St n P)) hm
    have h3 := rI_0 (GF (St n P) m)
    rw [← GF_isFa]
    generalize rwI (GF (St n P) m) = Y at *
    generalize valI n (GF (St n P)) = V at *
    generalize pvD P = PD at *
    exact ⟨by simp [q_consolidated_0, natD, h2, h3], fun _ => by simp [c_consolidated_0]⟩)
  have ef : nT (faN n (St n P)) = .tuple (((List.range n).filter (isFa (St n P))).map natD) := by
    unfold nT faN
    rw [List.map_map]; rfl
  rw [ef] at h4
  generalize hR : (List.range n).map natD = L at hr hq g
  generalize ((List.range n).filter (isFa (St n P))).map natD = FA at *
  generalize keepD c (stN n (St n P)) = KD at *
  generalize valI n (GF (St n P)) = V at *
  generalize c.d = D at *
  generalize pvD P = PD at *
  rw [run_of (ρ := [.dat D false, .dat PD false, .no, .no]) rfl rfl]
  unfold t_consolidated
  rw [seq_nx (ρ' := [.dat D false, .dat PD false, .dat V false, .no]) (by simp [h0, h1])]
  rw [seq_nx (for_nx0 (hr .no) g)]
  have hry := hr y
  rcases hyc with rfl | ⟨o, rfl⟩ <;> simp [-cRange1_ap, hry, hq, h4]
end Pv.K44


namespace Pv.K44
open PySem PySem.Spec L2
open PyProof.Rows hiding St

/-! ### consolidated right -/
theorem v__law_renumbered (k : Nat) (l kp : List Int) : Ev (k + 1) f__law_renumbered [nT l, .list (kp.map .int)] = .ok (nT (rk kp l)) := by
  refine (e__law_renumbered k _).trans ?_
  generalize Ev k = Φ
  have hc := compL_on PyData.int (fun n => decide (n ∈ kp)) (fun n => .int (kp.idxOf n : Nat)) (i := 2) (t := q__law_renumbered_0 Φ) (e := c__law_renumbered_0 Φ) (ρ := [.dat (nT l) false, .dat (.list (kp.map .int)) false, .no]) (l := l) (by
    intro n hn
    have a1 := inD_int_l n kp
    constructor
    · simp [q__law_renumbered_0, a1]
    · intro hp
      have a2 := indexD_int n kp (by simpa using hp)
      simp [c__law_renumbered_0, a2])
  have e : (l.filter fun n => decide (n ∈ kp)).map (fun n => PyData.int (kp.idxOf n : Nat)) = (rk kp l).map .int := by
    rw [rk, List.map_map]; rfl
  rw [e] at hc
  have hn : isNoneD (nT l) = false := rfl
  have ei : itD (nT l) = .ok (l.map .int) := rfl
  have en : nT (rk kp l) = .tuple ((rk kp l).map .int) := rfl
  rw [en]
  generalize (rk kp l).map PyData.int = RL at *
  generalize nT l = NL at *
  generalize l.map PyData.int = LL at *
  generalize kp.map PyData.int = KL at *
  simp [t__law_renumbered, hn, ei, hc]
def pws : List Int := [1, 2, 4, 8, 16]
theorem pws_ok : ∀ x ∈ pws, 0 < x ∧ x.natAbs.log2 < 9000 := by decide +kernel
def bitN (mask : Int) (n : Nat) : Bool := decide (mask / (pws.getD n 1) % 2 = 1)
theorem bit_at (mask : Int) (n : Nat) (hn : n < 5) : ∃ p, ixD (.list [.int 1, .int 2, .int 4, .int 8, .int 16]) (.int n) = .ok (.int p) ∧ fdivD (.int mask) (.int p) = .ok (.int (mask / p)) ∧ bitN mask n = decide (mask / p % 2 = 1) := by
  have hl : n < pws.length := hn
  obtain ⟨h0, h1⟩ := pws_ok _ (List.getElem_mem hl)
  have hi : ixD (.list (pws.map .int)) (.int n) = .ok (.int pws[n]) := ixL_nat (by simp [hl])
  refine ⟨pws[n], hi, fdivD_int mask h0 h1, ?_⟩
  unfold bitN
  simp [hl]
theorem v__law_bits (k : Nat) (mask : Int) (n : Nat) (hn : n ≤ 5) : ∃ l, Asc n l ∧ Ev (k + 1) f__law_bits [.int mask, .int n] = .ok (nT l) := by
  suffices hs : runC (t__law_bits (Ev k)) N__law_bits P__law_bits [.int mask, .int n] = .ok (nT (((List.range n).filter (bitN mask)).map Int.ofNat)) from ⟨_, asc_flt n _, (e__law_bits k _).trans hs⟩
  generalize Ev k = Φ
  have hr := cRange1_nat (n := n) (a := cVarB 1) (ρ := [.dat (.int mask) false, .dat (.int n) false, .no]) (by simp) (by omega)
  have hq := compL_on natD (bitN mask) natD (i := 2) (t := q__law_bits_0 Φ) (e := c__law_bits_0 Φ) (ρ := [.dat (.int mask) false, .dat (.int n) false, .no]) (l := List.range n) (by
    intro m hm
    simp at hm
    obtain ⟨p, h1, h2, h3⟩ := bit_at mask m (by omega)
    have d1 := modD_int (mask / p) (j := 2) (by decide)
    rw [h3]
    exact ⟨by simp [q__law_bits_0, natD, h1, h2, d1], fun _ => by simp [c__law_bits_0]⟩)
  have e : nT (((List.range n).filter (bitN mask)).map Int.ofNat) = .tuple (((List.range n).filter (bitN mask)).map natD) := by
    unfold nT
    rw [List.map_map]; rfl
  rw [e]
  generalize hR : (List.range n).map natD = L at hr hq
  generalize ((List.range n).filter (bitN mask)).map natD = F at hq ⊢
  simp [-cRange1_ap, t__law_bits, hr, hq]
/-- one clause more -/
theorem u_cr_body (Φ : Ph) (n : Nat) (cs : List PyData) (hcs : cs.length ≤ 100) (dr : PyData) (i : Nat) (x y : Int) (l1 l2 : List Int) (e1 : ixD dr (.int (2 * i)) = .ok (.int x)) (e2 : ixD dr (.int (2 * i + 1)) = .ok (.int y)) (b1 : Φ f__law_bits [.int x, .int n] = .ok (nT l1)) (b2 : Φ f__law_bits [.int y, .int n] = .ok (nT l2)) (s1 s2 y6 y7 y8 y9 y10 y11 y12 y13 y14 y15 : Sl) :
    ∃ c : Cl, c.dn = l1 ∧ c.lp = l2 ∧ b__law_consolidated_right_0 Φ [.dat (.int n) false, s1, s2, .dat dr false, .dat (.list cs) true, .dat (natD i) false, y6, y7, y8, y9, y10, y11, y12, y13, y14, y15] = .nx [.dat (.int n) false, s1, s2, .dat dr false, .dat (.list (cs ++ [c.d])) true, .dat (natD i) false, .dat (nT l1) false, .dat (nT l2) false, y8, y9, y10, y11, y12, y13, y14, y15] := by
  have m0 := mulI_intl 2 (i : Int) (by decide)
  have m1 := modD_int (i : Int) (j := 2) (by decide)
  have m2 := modD_int (i : Int) (j := 3) (by decide)
  have k1 : ∃ z : Str, ixD (.list [.str "may", .str "must"]) (.int ((i : Int) % 2)) = .ok (.str z) := by
    have hi : (i : Int) % 2 = 0 ∨ (i : Int) % 2 = 1 := by omega
    rcases hi with e | e <;> rw [e] <;> exact ⟨_, rfl⟩
  have k2 : ∃ z : Str, ixD (.list [.str "pay", .str "sell", .str "call"]) (.int ((i : Int) % 3)) = .ok (.str z) := by
    have hi : (i : Int) % 3 = 0 ∨ (i : Int) % 3 = 1 ∨ (i : Int) % 3 = 2 := by omega
    rcases hi with e | e | e <;> rw [e] <;> exact ⟨_, rfl⟩
  obtain ⟨z1, k1⟩ := k1
  obtain ⟨z2, k2⟩ := k2
  have hl : cs.length < 16000000 := by omega
  refine ⟨⟨z1, z2, (i : Int) + 1, l1, l2⟩, rfl, rfl, ?_⟩
  unfold Cl.d natD
  have n1 : isL (nT l1) = false := rfl
  have n2 : isL (nT l2) = false := rfl
  generalize nT l1 = N1 at *
  generalize nT l2 = N2 at *
  simp [b__law_consolidated_right_0, m0, m1, m2, k1, k2, e1, e2, b1, b2, hl]
theorem plain_nT (m : Nat) {l : List Int} (h : l.length ≤ 1000) : plainD (m + 2) (nT l) = true := plain_tup (by rw [List.length_map]; omega) fun d hd => by
  obtain ⟨x, _, rfl⟩ := List.mem_map.mp hd
  rfl
theorem rk_len (kp l : List Int) : (rk kp l).length ≤ l.length := by
  unfold rk
  rw [List.length_map]
  exact List.length_filter_le _ _
theorem plain_keep {c : Ct} (hc : c.Ok) (kp : List Int) (hk : kp.length ≤ 1000) : plainD 6 (keepD c kp) = true := by
  have hfew := hc.few
  refine plain_tup (n := 5) (by simp) ?_
  intro x hx
  simp at hx
  rcases hx with rfl | rfl
  · refine plain_tup (n := 4) (by rw [List.length_map]; omega) ?_
    intro x hx
    obtain ⟨m, _, rfl⟩ := List.mem_map.mp hx
    unfold pickD
    split
    · rename_i w hw
      have hw := List.mem_of_getElem? hw
      obtain ⟨g1, g2⟩ := hc.cl w hw
      have l1 := asc_len g1
      have l2 := asc_len g2
      refine plain_tup (n := 3) (by simp) ?_
      intro v hv
      simp at hv
      rcases hv with rfl | rfl | rfl | rfl | rfl | rfl
      · rfl
      · rfl
      · rfl
      · rfl
      · exact plain_nT 1 (Nat.le_trans (rk_len kp w.dn) (by omega))
      · exact plain_nT 1 (Nat.le_trans (rk_len kp w.lp) (by omega))
    · rfl
  · have l1 := asc_len hc.op
    exact plain_nT 3 (Nat.le_trans (rk_len kp c.op) (by omega))
end Pv.K44


namespace Pv.K44
open PySem PySem.Spec L2
open PyProof.Rows hiding St

/-! ### consolidated right, whole -/
theorem u_cr_due (Φ : Ph) (c : Ct) (kp : List Int) (done : List PyData) (n : Int) (x : Cl) (hx : c.cs[n.toNat]? = some x) (hn : 0 ≤ n) (hl : done.length < 16000000) (hr : ∀ l, Φ f__law_renumbered [nT l, .list (kp.map .int)] = .ok (nT (rk kp l))) (s0 s1 s2 s3 s4 s5 s6 s7 s9 s10 s11 y15 : Sl) :
    b__law_consolidated_right_1 Φ [s0, s1, s2, s3, s4, s5, s6, s7, .dat c.d false, s9, s10, s11, .dat (.int n) false, .dat (.list (kp.map .int)) false, .dat (.list done) true, y15] = .nx [s0, s1, s2, s3, s4, s5, s6, s7, .dat c.d false, s9, s10, s11, .dat (.int n) false, .dat (.list (kp.map .int)) false, .dat (.list (done ++ [pickD c kp n])) true, .dat x.d false] := by
  obtain ⟨i, rfl⟩ := Int.eq_ofNat_of_zero_le hn
  have a1 : ixD (.tuple (c.cs.map Cl.d)) (.int i) = .ok x.d := ixT_nat (by
    have hx' : c.cs[i]? = some x := hx
    simp [hx'])
  have a3 : ixD c.d (.int 0) = .ok (.tuple (c.cs.map Cl.d)) := ixT_0 ..
  have hp : pickD c kp i = .tuple [.str x.kd, .str "ann", .str x.ac, .int x.dy, nT (rk kp x.dn), nT (rk kp x.lp)] := by
    unfold pickD
    rw [hx]
    rfl
  rw [hp]
  have q1 := hr x.dn
  have q2 := hr x.lp
  have x4 : ixD x.d (.int 4) = .ok (nT x.dn) := ix4 ..
  have x5 : ixD x.d (.int 5) = .ok (nT x.lp) := ix5 ..
  have xc : slD x.d none (some 4) = .ok (.tuple [.str x.kd, .str "ann", .str x.ac, .int x.dy]) := by
    unfold Cl.d
    rw [slD_tuple, cut4]
  generalize x.d = XD at *
  generalize c.d = CD at *
  generalize nT (rk kp x.dn) = N1 at *
  generalize nT (rk kp x.lp) = N2 at *
  generalize nT x.dn = N3 at *
  generalize nT x.lp = N4 at *
  generalize kp.map PyData.int = KP at *
  simp [b__law_consolidated_right_1, a3, a1, x4, x5, xc, q1, q2, add42, hl]
theorem u_cr (Φ : Ph) (n : Nat) (hn : n ≤ 5) (P : List NP) (F : Fd) (dr : PyData) (hd : ∀ i : Nat, i < 11 → ∃ x : Int, ixD dr (.int i) = .ok (.int x)) (hset : Φ f__law_is_settlement [.int n, pvD P, valI n (GF F)] = .ok (.bool true)) (hbits : ∀ m : Int, ∃ l, Asc n l ∧ Φ f__law_bits [.int m, .int n] = .ok (nT l))
    (hc1 : ∀ c : Ct, c.Ok → c.cs.length = n → ∀ a r, unsL n F = a :: r → Φ f_consolidated [c.d, pvD P] = .exc "Unsettled" [natD a]) (hc2 : ∀ c : Ct, c.Ok → c.cs.length = n → unsL n F = [] → Φ f_consolidated [c.d, pvD P] = .ok (keepD c (stN n F)))
    (hren : ∀ l kp, Φ f__law_renumbered [nT l, .list (kp.map .int)] = .ok (nT (rk kp l))) (heq : ∀ d, plainD 8 d = true → Φ f__law_equal [d, d] = .ok (.bool true)) :
    runC (t__law_consolidated_right Φ) N__law_consolidated_right P__law_consolidated_right [.int n, pvD P, valI n (GF F), dr] = .ok (.bool true) := by
  rw [run_of (ρ := [.dat (.int n) false, .dat (pvD P) false, .dat (valI n (GF F)) false, .dat dr false, .no, .no, .no, .no, .no, .no, .no, .no, .no, .no, .no, .no]) rfl rfl]
  unfold t__law_consolidated_right
  rw [seq_nx (ρ' := [.dat (.int n) false, .dat (pvD P) false, .dat (valI n (GF F)) false, .dat dr false, .no, .no, .no, .no, .no, .no, .no, .no, .no, .no, .no, .no]) (by
    generalize valI n (GF F) = V at *
    generalize pvD P = PD at *
    simp [hset])]
  rw [seq_nx (ρ' := [.dat (.int n) false, .dat (pvD P) false, .dat (valI n (GF F)) false, .dat dr false, .dat (.list []) true, .no, .no, .no, .no, .no, .no, .no, .no, .no, .no, .no]) (by
    generalize valI n (GF F) = V at *
    generalize pvD P = PD at *
    simp)]
  obtain ⟨ρ', g1, cs, y5, y6, y7, c5, c6, c7, rfl, k1, k2⟩ := forL_inv natD (fun done ρ => ∃ (cs : List Cl) (y5 y6 y7 : Sl), Pv.Cl y5 ∧ Pv.Cl y6 ∧ Pv.Cl y7 ∧ ρ = [.dat (.int n) false, .dat (pvD P) false, .dat (valI n (GF F)) false, .dat dr false, .dat (.list (cs.map Cl.d)) true, y5, y6, y7, .no, .no, .no, .no, .no, .no, .no, .no] ∧ cs.length = done.length ∧ ∀ x ∈ cs, Asc n x.dn ∧ Asc n x.lp) (i := 5) (b := b__law_consolidated_right_0 Φ) (List.range n) (by
    rintro done i rest ρ e ⟨cs, y5, y6, y7, _, _, _, rfl, k1, k2⟩
    obtain ⟨hj, rfl⟩ := range_at e
    obtain ⟨x, e1⟩ := hd (2 * done.length) (by omega)
    obtain ⟨y, e2⟩ := hd (2 * done.length + 1) (by omega)
    rw [show ((2 * done.length : Nat) : Int) = 2 * (done.length : Int) by omega] at e1
    rw [show ((2 * done.length + 1 : Nat) : Int) = 2 * (done.length : Int) + 1 by omega] at e2
    obtain ⟨l1, a1, b1⟩ := hbits x
    obtain ⟨l2, a2, b2⟩ := hbits y
    obtain ⟨c, rfl, rfl, g⟩ := u_cr_body Φ n (cs.map Cl.d) (by rw [List.length_map]; omega) dr done.length x y l1 l2 e1 e2 b1 b2 (.dat (pvD P) false) (.dat (valI n (GF F)) false) y6 y7 .no .no .no .no .no .no .no .no
    refine ⟨_, .inl g, cs ++ [c], .dat (natD done.length) false, .dat (nT c.dn) false, .dat (nT c.lp) false, cl_dat _, cl_dat _, cl_dat _, by rw [List.map_append]; rfl, by rw [List.length_append, List.length_append, k1]; rfl, ?_⟩
    intro z hz
    rcases List.mem_append.mp hz with hz | hz
    · exact k2 z hz
    · rw [List.mem_singleton.mp hz]; exact ⟨a1, a2⟩) (ρ := [.dat (.int n) false, .dat (pvD P) false, .dat (valI n (GF F)) false, .dat dr false, .dat (.list []) true, .no, .no, .no, .no, .no, .no, .no, .no, .no, .no, .no]) ⟨[], .no, .no, .no, cl_no, cl_no, cl_no, rfl, rfl, by simp⟩
  rw [List.length_range] at k1
  have hr := cRange1_nat (n := n) (a := cVarB 0) (ρ := [.dat (.int n) false, .dat (pvD P) false, .dat (valI n (GF F)) false, .dat dr false, .dat (.list []) true, .no, .no, .no, .no, .no, .no, .no, .no, .no, .no, .no]) (by simp) (by omega)
  rw [seq_nx (for_nx0 hr g1)]
  clear hr g1
  obtain ⟨x10, e10⟩ := hd 10 (by decide)
  have e10 : ixD dr (.int 10) = .ok (.int x10) := e10
  obtain ⟨op, aop, bop⟩ := hbits x10
  have hcd : (Ct.mk cs op).d = .tuple [.tuple (cs.map Cl.d), nT op] := rfl
  have hok : Ct.Ok ⟨cs, op⟩ := ⟨by show cs.length ≤ 16; omega, fun x hx => by show Asc (cs.length : Nat) _ ∧ _; rw [k1]; exact k2 x hx, by show Asc (cs.length : Nat) op; rw [k1]; exact aop⟩
  have hcl : (Ct.mk cs op).cs.length = n := k1
  rw [seq_nx (ρ' := [.dat (.int n) false, .dat (pvD P) false, .dat (valI n (GF F)) false, .dat dr false, .dat (.list (cs.map Cl.d)) true, y5, y6, y7, .dat (Ct.mk cs op).d false, .no, .no, .no, .no, .no, .no, .no]) (by
    rw [hcd]
    generalize nT op = OP at *
    generalize valI n (GF F) = V at *
    generalize pvD P = PD at *
    generalize cs.map Cl.d = CS at *
    simp [e10, bop])]
  rw [seq_nx (ρ' := [.dat (.int n) false, .dat (pvD P) false, .dat (valI n (GF F)) false, .dat dr false, .dat (.list (cs.map Cl.d)) true, y5, y6, y7, .dat (Ct.mk cs op).d false, .dat (.tuple [.str "none"]) false, .no, .no, .no, .no, .no, .no]) (by
    generalize (Ct.mk cs op).d = CD at *
    generalize valI n (GF F) = V at *
    generalize pvD P = PD at *
    generalize cs.map Cl.d = CS at *
    simp)]
  have q1 := fun z => compL_on natD (fun m => (F m).isNone) natD (i := 12) (t := q__law_consolidated_right_0 Φ) (e := c__law_consolidated_right_0 Φ) (ρ := [.dat (.int n) false, .dat (pvD P) false, .dat (valI n (GF F)) false, .dat dr false, .dat (.list (cs.map Cl.d)) true, y5, y6, y7, .dat (Ct.mk cs op).d false, .dat z false, .no, .no, .no, .no, .no, .no]) (l := List.range n) (by
    intro m hm
    have hm : m < n := by simpa using hm
    have h2 := val_at (G := GF F) hm
    have h3 := rI_0 (GF F m)
    rw [← GF_is]
    generalize rwI (GF F m) = Y at *
    generalize (Ct.mk cs op).d = CD at *
    generalize valI n (GF F) = V at *
    generalize pvD P = PD at *
    generalize cs.map Cl.d = CS at *
    exact ⟨by simp [q__law_consolidated_right_0, natD, h2, h3], fun _ => by simp [c__law_consolidated_right_0]⟩)
  have hr := fun z => cRange1_nat (n := n) (a := cVarB 0) (ρ := [.dat (.int n) false, .dat (pvD P) false, .dat (valI n (GF F)) false, .dat dr false, .dat (.list (cs.map Cl.d)) true, y5, y6, y7, .dat (Ct.mk cs op).d false, .dat z false, .no, .no, .no, .no, .no, .no]) (by simp) (by omega)
  have eU : ((List.range n).filter fun m => (F m).isNone).map natD = (unsL n F).map natD := rfl
  rw [eU] at q1
  have s11 : ∀ z, disow [12] (sSet 11 true (cComp (cRange1 (cVarB 0)) [12] (.one 12) (q__law_consolidated_right_0 Φ) (c__law_consolidated_right_0 Φ))) [.dat (.int n) false, .dat (pvD P) false, .dat (valI n (GF F)) false, .dat dr false, .dat (.list (cs.map Cl.d)) true, y5, y6, y7, .dat (Ct.mk cs op).d false, .dat z false, .no, .no, .no, .no, .no, .no] = .nx [.dat (.int n) false, .dat (pvD P) false, .dat (valI n (GF F)) false, .dat dr false, .dat (.list (cs.map Cl.d)) true, y5, y6, y7, .dat (Ct.mk cs op).d false, .dat z false, .no, .dat (.list ((unsL n F).map natD)) true, .no, .no, .no, .no] := by
    intro z
    have a1 := q1 z
    have a2 := hr z
    generalize hR : (List.range n).map natD = L at a1 a2
    generalize (unsL n F).map natD = UL at *
    generalize (Ct.mk cs op).d = CD at *
    generalize valI n (GF F) = V at *
    generalize pvD P = PD at *
    generalize cs.map Cl.d = CS at *
    simp [-cRange1_ap, a1, a2]
  clear q1 hr
  cases hu : unsL n F with
  | cons a r =>
    have hx := hc1 _ hok hcl a r hu
    have s10 : sTry G (sSeq (disow [] (sSet 9 false (cTup [cK (.str "contract"), cCall Φ f_consolidated [cVarB 8, cVarB 1] [some 8, some 1]]))) (sNx)) [⟨"Unsettled", (some 10), sSeq (sIf (cAndT (cTst (cIsE G 10 ["PactError"])) (cAndT (cTst (cIsE G 10 ["ValueError"])) (cNotT (cTst (cIsE G 10 ["InvalidOverrides"]))))) (sSeq (disow [] (sSet 9 false (cTup [cK (.str "unsettled"), cFld G 10 "number"]))) (sNx)) (sNx)) (sNx)⟩] [.dat (.int n) false, .dat (pvD P) false, .dat (valI n (GF F)) false, .dat dr false, .dat (.list (cs.map Cl.d)) true, y5, y6, y7, .dat (Ct.mk cs op).d false, .dat (.tuple [.str "none"]) false, .no, .no, .no, .no, .no, .no] = .nx [.dat (.int n) false, .dat (pvD P) false, .dat (valI n (GF F)) false, .dat dr false, .dat (.list (cs.map Cl.d)) true, y5, y6, y7, .dat (Ct.mk cs op).d false, .dat (.tuple [.str "unsettled", natD a]) false, .no, .no, .no, .no, .no, .no] := by
      generalize (Ct.mk cs op).d = CD at *
      generalize valI n (GF F) = V at *
      generalize pvD P = PD at *
      generalize cs.map Cl.d = CS at *
      generalize natD a = AD at *
      rcases c5 with rfl | ⟨d5, rfl⟩ <;> rcases c6 with rfl | ⟨d6, rfl⟩ <;> rcases c7 with rfl | ⟨d7, rfl⟩ <;> (simp [hx]; rfl)
    rw [seq_nx s10, seq_nx (s11 _)]
    have hl : (unsL n F).length ≤ 16 := by
      have := List.length_filter_le (fun m => (F m).isNone) (List.range n)
      rw [List.length_range] at this
      unfold unsL
      omega
    have ix0 : ixD (.list ((unsL n F).map natD)) (.int 0) = .ok (natD a) := by rw [hu]; exact ixL_0 ..
    have hlen : lenD (.list ((unsL n F).map natD)) = .ok (.int (unsL n F).length) := by show R.ok (PyData.int (((unsL n F).map natD).length : Nat)) = _; rw [List.length_map]
    have hpos : (0 : Int) < (unsL n F).length := by rw [hu]; simp
    have q := heq (.tuple [.str "unsettled", natD a]) rfl
    clear hx hc1 hc2 hren heq hbits hset s11 s10 hu eU
    generalize (unsL n F).length = ul at *
    generalize (unsL n F).map natD = UL at *
    generalize (Ct.mk cs op).d = CD at *
    generalize valI n (GF F) = V at *
    generalize pvD P = PD at *
    generalize cs.map Cl.d = CS at *
    generalize natD a = AD at *
    have hpos' : 0 < ul := by omega
    have hne : ¬ ul = 0 := by omega
    simp [hlen, -lenD_list, hpos, hpos', ix0, q]
  | nil =>
    have hx := hc2 _ hok hcl hu
    have s10 : sTry G (sSeq (disow [] (sSet 9 false (cTup [cK (.str "contract"), cCall Φ f_consolidated [cVarB 8, cVarB 1] [some 8, some 1]]))) (sNx)) [⟨"Unsettled", (some 10), sSeq (sIf (cAndT (cTst (cIsE G 10 ["PactError"])) (cAndT (cTst (cIsE G 10 ["ValueError"])) (cNotT (cTst (cIsE G 10 ["InvalidOverrides"]))))) (sSeq (disow [] (sSet 9 false (cTup [cK (.str "unsettled"), cFld G 10 "number"]))) (sNx)) (sNx)) (sNx)⟩] [.dat (.int n) false, .dat (pvD P) false, .dat (valI n (GF F)) false, .dat dr false, .dat (.list (cs.map Cl.d)) true, y5, y6, y7, .dat (Ct.mk cs op).d false, .dat (.tuple [.str "none"]) false, .no, .no, .no, .no, .no, .no] = .nx [.dat (.int n) false, .dat (pvD P) false, .dat (valI n (GF F)) false, .dat dr false, .dat (.list (cs.map Cl.d)) true, y5, y6, y7, .dat (Ct.mk cs op).d false, .dat (.tuple [.str "contract", keepD ⟨cs, op⟩ (stN n F)]) false, .no, .no, .no, .no, .no, .no] := by
      generalize keepD ⟨cs, op⟩ (stN n F) = KD at *
      generalize (Ct.mk cs op).d = CD at *
      generalize valI n (GF F) = V at *
      generalize pvD P = PD at *
      generalize cs.map Cl.d = CS at *
      simp [hx]
    have s11' := s11 (.tuple [.str "contract", keepD ⟨cs, op⟩ (stN n F)])
    rw [hu] at s11'
    rw [seq_nx s10, seq_nx s11']
    have s12 : sIf (cTst (c2 gtD (c1 lenD (cVarB 11)) (cK (.int 0)))) (sSeq (disow [] (sRet (cCall Φ f__law_equal [cVarB 9, cTup [cK (.str "unsettled"), c2 ixD (cVarB 11) (cK (.int 0))]] [some 9, none]))) (sNx)) (sNx) [.dat (.int n) false, .dat (pvD P) false, .dat (valI n (GF F)) false, .dat dr false, .dat (.list (cs.map Cl.d)) true, y5, y6, y7, .dat (Ct.mk cs op).d false, .dat (.tuple [.str "contract", keepD ⟨cs, op⟩ (stN n F)]) false, .no, .dat (.list (([] : List Nat).map natD)) true, .no, .no, .no, .no] = .nx [.dat (.int n) false, .dat (pvD P) false, .dat (valI n (GF F)) false, .dat dr false, .dat (.list (cs.map Cl.d)) true, y5, y6, y7, .dat (Ct.mk cs op).d false, .dat (.tuple [.str "contract", keepD ⟨cs, op⟩ (stN n F)]) false, .no, .dat (.list []) true, .no, .no, .no, .no] := by
      generalize keepD ⟨cs, op⟩ (stN n F) = KD at *
      generalize (Ct.mk cs op).d = CD at *
      generalize valI n (GF F) = V at *
      generalize pvD P = PD at *
      generalize cs.map Cl.d = CS at *
      simp
    rw [seq_nx s12]
    have q2 := compL_on natD (isSt F) natD (i := 12) (t := q__law_consolidated_right_1 Φ) (e := c__law_consolidated_right_1 Φ) (ρ := [.dat (.int n) false, .dat (pvD P) false, .dat (valI n (GF F)) false, .dat dr false, .dat (.list (cs.map Cl.d)) true, y5, y6, y7, .dat (Ct.mk cs op).d false, .dat (.tuple [.str "contract", keepD ⟨cs, op⟩ (stN n F)]) false, .no, .dat (.list []) true, .no, .no, .no, .no]) (l := List.range n) (by
      intro m hm
      have hm : m < n := by simpa using hm
      have h2 := val_at (G := GF F) hm
      have h3 := rI_0 (GF F m)
      rw [← GF_isSt]
      generalize rwI (GF F m) = Y at *
      generalize keepD ⟨cs, op⟩ (stN n F) = KD at *
      generalize (Ct.mk cs op).d = CD at *
      generalize valI n (GF F) = V at *
      generalize pvD P = PD at *
      generalize cs.map Cl.d = CS at *
      exact ⟨by simp [q__law_consolidated_right_1, natD, h2, h3], fun _ => by simp [c__law_consolidated_right_1]⟩)
    have eS : ((List.range n).filter (isSt F)).map natD = (stN n F).map .int := by
      unfold stN
      rw [List.map_map]; rfl
    rw [eS] at q2
    have hr2 := cRange1_nat (n := n) (a := cVarB 0) (ρ := [.dat (.int n) false, .dat (pvD P) false, .dat (valI n (GF F)) false, .dat dr false, .dat (.list (cs.map Cl.d)) true, y5, y6, y7, .dat (Ct.mk cs op).d false, .dat (.tuple [.str "contract", keepD ⟨cs, op⟩ (stN n F)]) false, .no, .dat (.list []) true, .no, .no, .no, .no]) (by simp) (by omega)
    have s13 : disow [12] (sSet 13 true (cComp (cRange1 (cVarB 0)) [12] (.one 12) (q__law_consolidated_right_1 Φ) (c__law_consolidated_right_1 Φ))) [.dat (.int n) false, .dat (pvD P) false, .dat (valI n (GF F)) false, .dat dr false, .dat (.list (cs.map Cl.d)) true, y5, y6, y7, .dat (Ct.mk cs op).d false, .dat (.tuple [.str "contract", keepD ⟨cs, op⟩ (stN n F)]) false, .no, .dat (.list []) true, .no, .no, .no, .no] = .nx [.dat (.int n) false, .dat (pvD P) false, .dat (valI n (GF F)) false, .dat dr false, .dat (.list (cs.map Cl.d)) true, y5, y6, y7, .dat (Ct.mk cs op).d false, .dat (.tuple [.str "contract", keepD ⟨cs, op⟩ (stN n F)]) false, .no, .dat (.list []) true, .no, .dat (.list ((stN n F).map .int)) true, .no, .no] := by
      generalize hR : (List.range n).map natD = L at q2 hr2
      generalize keepD ⟨cs, op⟩ (stN n F) = KD at *
      generalize (stN n F).map PyData.int = SL at *
      generalize (Ct.mk cs op).d = CD at *
      generalize valI n (GF F) = V at *
      generalize pvD P = PD at *
      generalize cs.map Cl.d = CS at *
      simp [-cRange1_ap, q2, hr2]
    rw [seq_nx s13]
    rw [seq_nx (ρ' := [.dat (.int n) false, .dat (pvD P) false, .dat (valI n (GF F)) false, .dat dr false, .dat (.list (cs.map Cl.d)) true, y5, y6, y7, .dat (Ct.mk cs op).d false, .dat (.tuple [.str "contract", keepD ⟨cs, op⟩ (stN n F)]) false, .no, .dat (.list []) true, .no, .dat (.list ((stN n F).map .int)) true, .dat (.list []) true, .no]) (by
      generalize keepD ⟨cs, op⟩ (stN n F) = KD at *
      generalize (stN n F).map PyData.int = SL at *
      generalize (Ct.mk cs op).d = CD at *
      generalize valI n (GF F) = V at *
      generalize pvD P = PD at *
      generalize cs.map Cl.d = CS at *
      simp)]
    have hst : Asc n (stN n F) := asc_flt n _
    have hstl := asc_len hst
    obtain ⟨ρ', g2, y12, y15, rfl⟩ := forL_inv PyData.int (fun done ρ => ∃ y12 y15, ρ = [.dat (.int n) false, .dat (pvD P) false, .dat (valI n (GF F)) false, .dat dr false, .dat (.list (cs.map Cl.d)) true, y5, y6, y7, .dat (Ct.mk cs op).d false, .dat (.tuple [.str "contract", keepD ⟨cs, op⟩ (stN n F)]) false, .no, .dat (.list []) true, y12, .dat (.list ((stN n F).map .int)) false, .dat (.list (done.map (pickD ⟨cs, op⟩ (stN n F)))) true, y15]) (i := 12) (b := b__law_consolidated_right_1 Φ) (stN n F) (by
      rintro done m rest ρ e ⟨y12, y15, rfl⟩
      have hb := hst.2 m (by rw [e]; simp)
      have hi : m.toNat < cs.length := by omega
      have hlt : (done.map (pickD ⟨cs, op⟩ (stN n F))).length < 16000000 := by
        have := congrArg List.length e
        rw [List.length_append] at this
        rw [List.length_map]; omega
      have := u_cr_due Φ ⟨cs, op⟩ (stN n F) (done.map (pickD ⟨cs, op⟩ (stN n F))) m cs[m.toNat] (List.getElem?_eq_getElem hi) hb.1 hlt (fun l => hren l _) (.dat (.int n) false) (.dat (pvD P) false) (.dat (valI n (GF F)) false) (.dat dr false) (.dat (.list (cs.map Cl.d)) true) y5 y6 y7 (.dat (.tuple [.str "contract", keepD ⟨cs, op⟩ (stN n F)]) false) .no (.dat (.list []) true) y15
      refine ⟨_, .inl this, .dat (.int m) false, .dat (cs[m.toNat]).d false, ?_⟩
      rw [List.map_append]; rfl) (ρ := [.dat (.int n) false, .dat (pvD P) false, .dat (valI n (GF F)) false, .dat dr false, .dat (.list (cs.map Cl.d)) true, y5, y6, y7, .dat (Ct.mk cs op).d false, .dat (.tuple [.str "contract", keepD ⟨cs, op⟩ (stN n F)]) false, .no, .dat (.list []) true, .no, .dat (.list ((stN n F).map .int)) false, .dat (.list []) true, .no]) ⟨.no, .no, rfl⟩
    have s15 : disow [13] (sFor (cItE (cVar 13)) (.one 12) (b__law_consolidated_right_1 Φ)) [.dat (.int n) false, .dat (pvD P) false, .dat (valI n (GF F)) false, .dat dr false, .dat (.list (cs.map Cl.d)) true, y5, y6, y7, .dat (Ct.mk cs op).d false, .dat (.tuple [.str "contract", keepD ⟨cs, op⟩ (stN n F)]) false, .no, .dat (.list []) true, .no, .dat (.list ((stN n F).map .int)) true, .dat (.list []) true, .no] = .nx [.dat (.int n) false, .dat (pvD P) false, .dat (valI n (GF F)) false, .dat dr false, .dat (.list (cs.map Cl.d)) true, y5, y6, y7, .dat (Ct.mk cs op).d false, .dat (.tuple [.str "contract", keepD ⟨cs, op⟩ (stN n F)]) false, .no, .dat (.list []) true, y12, .dat (.list ((stN n F).map .int)) false, .dat (.list ((stN n F).map (pickD ⟨cs, op⟩ (stN n F)))) true, y15] := by
      have e : disL [13] [.dat (.int n) false, .dat (pvD P) false, .dat (valI n (GF F)) false, .dat dr false, .dat (.list (cs.map Cl.d)) true, y5, y6, y7, .dat (Ct.mk cs op).d false, .dat (.tuple [.str "contract", keepD ⟨cs, op⟩ (stN n F)]) false, .no, .dat (.list []) true, .no, .dat (.list ((stN n F).map .int)) true, .dat (.list []) true, .no] = [.dat (.int n) false, .dat (pvD P) false, .dat (valI n (GF F)) false, .dat dr false, .dat (.list (cs.map Cl.d)) true, y5, y6, y7, .dat (Ct.mk cs op).d false, .dat (.tuple [.str "contract", keepD ⟨cs, op⟩ (stN n F)]) false, .no, .dat (.list []) true, .no, .dat (.list ((stN n F).map .int)) false, .dat (.list []) true, .no] := rfl
      rw [disow_ap, e]
      refine for_nx ?_ g2
      simp
    rw [seq_nx s15]
    have a1 : ixD (Ct.mk cs op).d (.int 1) = .ok (nT op) := ixT_1 ..
    have a2 := hren op (stN n F)
    have pk := heq (.tuple [.str "contract", keepD ⟨cs, op⟩ (stN n F)]) (by
      refine plain_tup (n := 7) (by simp) ?_
      intro x hx
      simp at hx
      rcases hx with rfl | rfl
      · rfl
      · exact plain_mono (plain_keep hok (stN n F) (by omega)))
    have ek : keepD ⟨cs, op⟩ (stN n F) = .tuple [.tuple ((stN n F).map (pickD ⟨cs, op⟩ (stN n F))), nT (rk (stN n F) op)] := rfl
    rw [ek] at pk ⊢
    clear hx hc1 hc2 hren heq hbits hset s11 s11' s10 s12 s13 s15 g2 q2 hr2
    generalize nT (rk (stN n F) op) = RO at *
    generalize (stN n F).map (pickD ⟨cs, op⟩ (stN n F)) = PK at *
    generalize (stN n F).map PyData.int = SL at *
    generalize (Ct.mk cs op).d = CD at *
    generalize valI n (GF F) = V at *
    generalize pvD P = PD at *
    generalize cs.map Cl.d = CS at *
    generalize nT op = OP at *
    simp [a1, a2, pk]
theorem v__law_consolidated_right (k n : Nat) (hn : n ≤ 5) (P : List NP) (hP : ∀ p ∈ P, OvP n p) (hl : P.length ≤ 1000) (dr : PyData) (hd : ∀ i : Nat, i < 11 → ∃ x : Int, ixD dr (.int i) = .ok (.int x)) : Ev (k + 9) f__law_consolidated_right [.int n, pvD P, valI n (GF (St n P)), dr] = .ok (.bool true) := by
  refine (e__law_consolidated_right (k + 8) _).trans (u_cr (Ev (k + 8)) n hn P (St n P) dr hd ?_ ?_ ?_ ?_ ?_ ?_)
  · exact v__law_is_settlement (k + 6) n (by omega) P hP hl (St n P) (St_rules n P)
  · exact fun m => v__law_bits (k + 7) m n hn
  · exact fun c _ hc a r hu => v_cons_raise (k + 5) n (by omega) P c hc hu
  · exact fun c hok hc hu => v_cons_ok k n (by omega) P c hok hc hu
  · exact fun l kp => v__law_renumbered (k + 7) l kp
  · exact fun d h => v_equal 8 k d h
end Pv.K44


namespace Pv.K44
open PySem PySem.Spec L2
open PyProof.Rows hiding St

/-! ### drawn rows, the law -/
def rwsD (rows : List NP) : PyData := .list (rows.map prN)
theorem u_rows_body (Φ : Ph) (n : Nat) (dr : PyData) (rows : List NP) (hr : rows.length ≤ 100) (k : Nat) (a b : Nat) (ha : a < n) (hb : b + 1 < n) (e1 : ixD dr (.int (1 + 2 * k)) = .ok (.int a)) (e2 : ixD dr (.int (2 + 2 * k)) = .ok (.int b)) (s0 y5 y6 : Sl) :
    ∃ p, OvP n p ∧ ∃ y5' y6', b__law_drawn_rows_0 Φ [s0, .dat (.int n) false, .dat dr false, .dat (rwsD rows) true, .dat (natD k) false, y5, y6] = .nx [s0, .dat (.int n) false, .dat dr false, .dat (rwsD (rows ++ [p])) true, .dat (natD k) false, y5', y6'] := by
  have m0 := mulI_intl 2 (k : Int) (by decide)
  have hl : (rows.map prN).length < 16000000 := by rw [List.length_map]; omega
  have eR : ∀ p, rwsD (rows ++ [p]) = .list (rows.map prN ++ [prN p]) := fun p => by unfold rwsD; rw [List.map_append]; rfl
  by_cases hge : a ≤ b
  · refine ⟨(a, b + 1), ⟨ha, hb, by show a ≠ b + 1; omega⟩, .dat (.int a) false, .dat (.int b) false, ?_⟩
    have hg : geD (.int b) (.int a) = .ok (.bool true) := by rw [geD_int, decide_eq_true (by omega)]
    have hi : intD (.bool true) = .ok (.int 1) := rfl
    have ep : prN (a, b + 1) = .tuple [.int a, .int ((b : Int) + 1)] := rfl
    rw [eR, ep]
    unfold rwsD
    generalize rows.map prN = R at *
    simp [b__law_drawn_rows_0, natD, m0, e1, e2, hg, hi, hl, -geD_int]
  · refine ⟨(a, b), ⟨ha, by show b < n; omega, by show a ≠ b; omega⟩, .dat (.int a) false, .dat (.int b) false, ?_⟩
    have hg : geD (.int b) (.int a) = .ok (.bool false) := by rw [geD_int, decide_eq_false (by omega)]
    have hi : intD (.bool false) = .ok (.int 0) := rfl
    have ep : prN (a, b) = .tuple [.int a, .int ((b : Int) + 0)] := by unfold prN; simp
    rw [eR, ep]
    unfold rwsD
    generalize rows.map prN = R at *
    simp [b__law_drawn_rows_0, natD, m0, e1, e2, hg, hi, hl, -geD_int]
def lims (n : Nat) : List Int := 25 :: (List.replicate 24 [((max 1 n : Nat) : Int), ((max 1 (n - 1) : Nat) : Int)]).flatten
theorem limOk_of {ls : List Int} (h : (ls.all fun l => decide (0 < l) && decide (l.natAbs.log2 < 9000)) = true) : LimOk ls := by
  intro l hl
  have := List.all_eq_true.mp h l hl
  simpa using this
theorem lims_ok : ∀ n, n ≤ 16 → LimOk (lims n) ∧ (lims n).length = 49 ∧ (∀ k, k < 24 → (lims n)[1 + 2 * k]? = some ((max 1 n : Nat) : Int) ∧ (lims n)[2 + 2 * k]? = some ((max 1 (n - 1) : Nat) : Int)) := by
  intro n hn
  have h : ∀ n : Fin 17, ((lims n).all fun l => decide (0 < l) && decide (l.natAbs.log2 < 9000)) = true ∧ (lims n).length = 49 ∧ ∀ k : Fin 24, (lims n)[1 + 2 * k.val]? = some ((max 1 n.val : Nat) : Int) ∧ (lims n)[2 + 2 * k.val]? = some ((max 1 (n.val - 1) : Nat) : Int) := by decide +kernel
  obtain ⟨a, b, c⟩ := h ⟨n, by omega⟩
  exact ⟨limOk_of a, b, fun k hk => c ⟨k, hk⟩⟩
theorem mul_flat (a b : PyData) (n : Nat) (hn : n ≤ 100) : mulD (.list [a, b]) (.int n) = .ok (.list (List.replicate n [a, b]).flatten) := by
  have z1 : (n : Int).natAbs < 2 ^ 63 := by omega
  have z3 : [a, b].length * (n : Int).toNat ≤ sizeLine := by
    have : sizeLine = 16777216 := rfl
    simp; omega
  simp only [mulD, z1, z3, and_self, if_true]
  simp
theorem v__law_drawn_rows (k : Nat) (cell : Int) (n : Nat) (hn : n ≤ 16) : ∃ rows : List NP, rows.length ≤ 24 ∧ (∀ p ∈ rows, OvP n p) ∧ Ev (k + 2) f__law_drawn_rows [.int cell, .int n] = .ok (rwsD rows) := by
  obtain ⟨l1, l2, l3⟩ := lims_ok n hn
  obtain ⟨xs, hd, h1⟩ := v_draws k cell (lims n) (by omega) l1
  suffices hs : ∃ rows : List NP, rows.length ≤ 24 ∧ (∀ p ∈ rows, OvP n p) ∧ runC (t__law_drawn_rows (Ev (k + 1))) N__law_drawn_rows P__law_drawn_rows [.int cell, .int n] = .ok (rwsD rows) by
    obtain ⟨rows, a, b, c⟩ := hs
    exact ⟨rows, a, b, (e__law_drawn_rows (k + 1) _).trans c⟩
  generalize Ev (k + 1) = Φ at h1
  obtain ⟨x0, e0, p0, p1⟩ := hd.at (i := 0) (l := 25) rfl
  obtain ⟨r0, rfl⟩ := Int.eq_ofNat_of_zero_le p0
  have mx1 : max2D (.int 1) (.int n) = .ok (.int ((max 1 n : Nat) : Int)) := by
    show R.ok (PyData.int (if (n : Int) > 1 then (n : Int) else 1)) = _
    congr 2
    split <;> omega
  have mx2 : max2D (.int 1) (.int ((n : Int) - 1)) = .ok (.int ((max 1 (n - 1) : Nat) : Int)) := by
    show R.ok (PyData.int (if (n : Int) - 1 > 1 then (n : Int) - 1 else 1)) = _
    congr 2
    split <;> omega
  have hm := mul_flat (.int ((max 1 n : Nat) : Int)) (.int ((max 1 (n - 1) : Nat) : Int)) 24 (by decide)
  have hm : mulD (.list [.int ((max 1 n : Nat) : Int), .int ((max 1 (n - 1) : Nat) : Int)]) (.int 24) = .ok (.list (List.replicate 24 [.int ((max 1 n : Nat) : Int), .int ((max 1 (n - 1) : Nat) : Int)]).flatten) := hm
  have el : (lims n).map PyData.int = .int 25 :: (List.replicate 24 [.int ((max 1 n : Nat) : Int), .int ((max 1 (n - 1) : Nat) : Int)]).flatten := by
    unfold lims
    rw [List.map_cons, List.map_flatten, List.map_replicate]; rfl
  have had : addD (.list [.int 25]) (.list (List.replicate 24 [.int ((max 1 n : Nat) : Int), .int ((max 1 (n - 1) : Nat) : Int)]).flatten) = .ok (.list ((lims n).map PyData.int)) := by
    rw [el]
    exact addL _ _ (show 49 ≤ sizeLine by decide)
  have hx0 : ixD (.list (xs.map .int)) (.int 0) = .ok (.int r0) := ixL_nat (i := 0) (by rw [List.getElem?_map, e0]; rfl)
  have hat : ∀ j : Nat, j < 24 → (∃ a : Int, (0 ≤ a ∧ a < ((max 1 n : Nat) : Int)) ∧ ixD (.list (xs.map .int)) (.int (1 + 2 * j)) = .ok (.int a)) ∧ ∃ b : Int, (0 ≤ b ∧ b < ((max 1 (n - 1) : Nat) : Int)) ∧ ixD (.list (xs.map .int)) (.int (2 + 2 * j)) = .ok (.int b) := by
    intro j hj
    obtain ⟨c1, c2⟩ := l3 j hj
    obtain ⟨a, ea, qa⟩ := hd.at c1
    obtain ⟨b, eb, qb⟩ := hd.at c2
    refine ⟨⟨a, qa, ?_⟩, b, qb, ?_⟩
    · rw [show (1 : Int) + 2 * (j : Int) = ((1 + 2 * j : Nat) : Int) by omega]
      exact ixL_nat (by rw [List.getElem?_map, ea]; rfl)
    · rw [show (2 : Int) + 2 * (j : Int) = ((2 + 2 * j : Nat) : Int) by omega]
      exact ixL_nat (by rw [List.getElem?_map, eb]; rfl)
  generalize hX : PyData.list (xs.map .int) = X at *
  have s1 : disow [] (sSet 2 false (cCall Φ f__law_draws [cVarB 0, c2 addD (cLst [cK (.int 25)]) (c2 mulD (cLst [c2 max2D (cK (.int 1)) (cVarB 1), c2 max2D (cK (.int 1)) (c2 subD (cVarB 1) (cK (.int 1)))]) (cK (.int 24)))] [some 0, none])) [.dat (.int cell) false, .dat (.int n) false, .no, .no, .no, .no, .no] = .nx [.dat (.int cell) false, .dat (.int n) false, .dat X false, .no, .no, .no, .no] := by
    generalize ((max 1 n : Nat) : Int) = M1 at *
    generalize ((max 1 (n - 1) : Nat) : Int) = M2 at *
    generalize (List.replicate 24 [PyData.int M1, .int M2]).flatten = FL at *
    generalize (lims n).map PyData.int = LM at *
    simp [mx1, mx2, hm, had, h1]
  have done : ∀ rows, endC (sSeq (disow [3] (sRet (cVar 3))) (sNx) [.dat (.int cell) false, .dat (.int n) false, .dat X false, .dat (rwsD rows) true, .no, .no, .no]) = .ok (rwsD rows) := by
    intro rows
    unfold rwsD
    generalize rows.map prN = R
    simp
  by_cases hn1 : 1 < n
  · obtain ⟨ρ', g1, rows, y4, y5, y6, rfl, k1, k2⟩ := forL_inv natD (fun done ρ => ∃ (rows : List NP) (y4 y5 y6 : Sl), ρ = [.dat (.int cell) false, .dat (.int n) false, .dat X false, .dat (rwsD rows) true, y4, y5, y6] ∧ rows.length = done.length ∧ ∀ p ∈ rows, OvP n p) (i := 4) (b := b__law_drawn_rows_0 Φ) (List.range r0) (by
      rintro done j rest ρ e ⟨rows, y4, y5, y6, rfl, k1, k2⟩
      obtain ⟨hj, rfl⟩ := range_at e
      obtain ⟨⟨a, qa, ea⟩, b, qb, eb⟩ := hat done.length (by omega)
      obtain ⟨a, rfl⟩ := Int.eq_ofNat_of_zero_le qa.1
      obtain ⟨b, rfl⟩ := Int.eq_ofNat_of_zero_le qb.1
      obtain ⟨p, hp, y5', y6', g⟩ := u_rows_body Φ n X rows (by omega) done.length a b (by omega) (by omega) ea eb (.dat (.int cell) false) y5 y6
      refine ⟨_, .inl g, rows ++ [p], _, _, _, rfl, by rw [List.length_append, List.length_append, k1]; rfl, ?_⟩
      intro q hq
      rcases List.mem_append.mp hq with hq | hq
      · exact k2 q hq
      · rw [List.mem_singleton.mp hq]; exact hp) (ρ := [.dat (.int cell) false, .dat (.int n) false, .dat X false, .dat (rwsD []) true, .no, .no, .no]) ⟨[], .no, .no, .no, rfl, rfl, by simp⟩
    rw [List.length_range] at k1
    refine ⟨rows, by omega, k2, ?_⟩
    have hr := cRange1_nat (n := r0) (a := c2 ixD (cVarB 2) (cK (.int 0))) (ρ := [.dat (.int cell) false, .dat (.int n) false, .dat X false, .dat (rwsD []) true, .no, .no, .no]) (by simp [hx0]) (by omega)
    rw [run_of (ρ := [.dat (.int cell) false, .dat (.int n) false, .no, .no, .no, .no, .no]) rfl rfl]
    unfold t__law_drawn_rows
    rw [seq_nx s1]
    rw [seq_nx (ρ' := [.dat (.int cell) false, .dat (.int n) false, .dat X false, .dat (rwsD []) true, .no, .no, .no]) (by simp [rwsD])]
    have ht : cTst (c2 gtD (cVarB 1) (cK (.int 1))) [.dat (.int cell) false, .dat (.int n) false, .dat X false, .dat (rwsD []) true, .no, .no, .no] = .ok true := by
      have : (1 : Int) < n := by omega
      simp [this]
    rw [sSeq_ap, sIf_ap, ht]
    show endC (match sSeq _ sNx _ with | .nx ρ' => _ | r => r) = _
    rw [seq_nx (for_nx0 hr g1)]
    unfold rwsD
    generalize rows.map prN = R
    simp
  · refine ⟨[], by simp, by simp, ?_⟩
    rw [run_of (ρ := [.dat (.int cell) false, .dat (.int n) false, .no, .no, .no, .no, .no]) rfl rfl]
    unfold t__law_drawn_rows
    rw [seq_nx s1]
    rw [seq_nx (ρ' := [.dat (.int cell) false, .dat (.int n) false, .dat X false, .dat (rwsD []) true, .no, .no, .no]) (by simp [rwsD])]
    rw [seq_nx (ρ' := [.dat (.int cell) false, .dat (.int n) false, .dat X false, .dat (rwsD []) true, .no, .no, .no]) (by
      have : ¬ (1 : Int) < n := by omega
      simp [this])]
    exact done []
theorem v__law_right (k n : Nat) (hn : n ≤ 16) (rows : List NP) (hl : rows.length ≤ 24) (hok : ∀ p ∈ rows, OvP n p) (dr : PyData) (x0 x1 x2 : Int) (d0 : ixD dr (.int 0) = .ok (.int x0)) (d1 : ixD dr (.int 1) = .ok (.int x1)) (d2 : ixD dr (.int 2) = .ok (.int x2)) : Ev (k + 9) f__law_right [rwsD rows, .int n, dr] = .ok (.bool true) := by
  refine (e__law_right (k + 8) _).trans ?_
  have hpl : (mkP rows).length ≤ 24 := by have := distA_le leN rows; unfold mkP; omega
  have hpok : ∀ p ∈ mkP rows, OvP n p := fun p hp => hok p ((mkP_mem rows p).mp hp)
  have hasc := mkP_asc rows
  have RU := St_rules n (mkP rows)
  have a1 : Ev (k + 8) f__law_made_right [rwsD rows, .int n, dr] = .ok (.bool true) := v__law_made_right k n rows dr x0 hl hok hn d0
  have a2 : Ev (k + 8) f__law_sorted [rwsD rows] = .ok (pvD (mkP rows)) := v_law_sortedA encN (k + 7) rows (by omega)
  have a3 : Ev (k + 8) f_settle [.int n, pvD (mkP rows)] = .ok (valI n (GF (St n (mkP rows)))) := by
    have := v_settle (k + 6) n hn (mkP rows)
    rwa [valD_I] at this
  have a4 : Ev (k + 8) f__law_is_settlement [.int n, pvD (mkP rows), valI n (GF (St n (mkP rows)))] = .ok (.bool true) := v__law_is_settlement (k + 6) n (by omega) _ hpok (by omega) _ RU
  have a5 : Ev (k + 8) f__law_accepted_right [.int n, pvD (mkP rows), valI n (GF (St n (mkP rows))), dr] = .ok (.bool true) := v__law_accepted_right (k + 4) n hn hpok (by omega) RU dr x0 x1 x2 d0 d1 d2
  have a6 : Ev (k + 8) f__law_rings_right [.int n, pvD (mkP rows), valI n (GF (St n (mkP rows)))] = .ok (.bool true) := v__law_rings_right (k + 3) n hn _ hpok hasc (by omega)
  generalize Ev (k + 8) = Φ at *
  generalize valI n (GF (St n (mkP rows))) = V at *
  generalize pvD (mkP rows) = PD at *
  generalize rwsD rows = RD at *
  simp [t__law_right, a1, a2, a3, a4, a5, a6]
theorem u_law (Φ : Ph) (ns : List Int) (hcell : ∀ j : Int, 0 ≤ j → ∃ n : Int, Φ f__law_cell [.list (ns.map .int), .int j] = .ok (.int n))
    (hdraw : ∀ n : Int, ∃ xs, Dr xs [4, 9, 8, 6, 30, 50, 9] ∧ Φ f__law_draws [.int n, .list (List.map .int [4, 9, 8, 6, 30, 50, 9])] = .ok (.list (xs.map .int)))
    (hdraw2 : ∀ n : Int, ∃ xs : List Int, xs.length = 11 ∧ Φ f__law_draws [.int n, .list (List.replicate 11 (.int 32))] = .ok (.list (xs.map .int)))
    (hrows : ∀ (c : Int) (n : Nat), n ≤ 16 → ∃ rows : List NP, rows.length ≤ 24 ∧ (∀ p ∈ rows, OvP n p) ∧ Φ f__law_drawn_rows [.int c, .int n] = .ok (rwsD rows))
    (hright : ∀ (n : Nat) (rows : List NP) (dr : PyData) (x0 x1 x2 : Int), n ≤ 16 → rows.length ≤ 24 → (∀ p ∈ rows, OvP n p) → ixD dr (.int 0) = .ok (.int x0) → ixD dr (.int 1) = .ok (.int x1) → ixD dr (.int 2) = .ok (.int x2) → Φ f__law_right [rwsD rows, .int n, dr] = .ok (.bool true))
    (hsort : ∀ rows : List NP, rows.length ≤ 24 → Φ f__law_sorted [rwsD rows] = .ok (pvD (mkP rows)))
    (hset : ∀ (n : Nat) (P : List NP), n ≤ 16 → Φ f_settle [.int n, pvD P] = .ok (valI n (GF (St n P))))
    (hcons : ∀ (n : Nat) (P : List NP) (dr : PyData), n ≤ 5 → (∀ p ∈ P, OvP n p) → P.length ≤ 1000 → (∀ i : Nat, i < 11 → ∃ x : Int, ixD dr (.int i) = .ok (.int x)) → Φ f__law_consolidated_right [.int n, pvD P, valI n (GF (St n P)), dr] = .ok (.bool true)) :
    runC (t_law Φ) N_law P_law [.list (ns.map .int)] = .ok (.bool true) := by
  rw [run_of (ρ := [.dat (.list (ns.map .int)) false, .no, .no, .no, .no, .no, .no]) rfl rfl]
  generalize hS : PyData.list (ns.map .int) = S at hcell ⊢
  clear hS ns
  unfold t_law
  obtain ⟨n0, e0⟩ := hcell 0 (by decide)
  obtain ⟨xs, hd, e1⟩ := hdraw n0
  match xs, hd with
  | [x0, x1, x2, x3, x4, x5, x6], hd =>
  obtain ⟨d0, d1, d2, d3, d4, d5, d6, _⟩ := hd
  simp only [List.map_cons, List.map_nil] at e1
  have c4 : cutD [.int x0, .int x1, .int x2, .int x3, .int x4, .int x5, .int x6] (some 4) none = [.int x4, .int x5, .int x6] := cutD_from _ 4
  obtain ⟨D, hD⟩ : ∃ D, PyData.list [.int x0, .int x1, .int x2, .int x3, .int x4, .int x5, .int x6] = D := ⟨_, rfl⟩
  have r0 : ixD D (.int 0) = .ok (.int x0) := by rw [← hD]; exact ixL_nat (i := 0) rfl
  have r1 : ixD D (.int 1) = .ok (.int x1) := by rw [← hD]; exact ixL_nat (i := 1) rfl
  have r2 : ixD D (.int 2) = .ok (.int x2) := by rw [← hD]; exact ixL_nat (i := 2) rfl
  have r3 : ixD D (.int 3) = .ok (.int x3) := by rw [← hD]; exact ixL_nat (i := 3) rfl
  have rc : slD D (some 4) none = .ok (.list [.int x4, .int x5, .int x6]) := by rw [← hD, slD_list, c4]
  rw [hD] at e1
  clear hD c4
  have w0 : ixD (.list [.int x4, .int x5, .int x6]) (.int 0) = .ok (.int x4) := ixL_nat (i := 0) rfl
  have w1 : ixD (.list [.int x4, .int x5, .int x6]) (.int 1) = .ok (.int x5) := ixL_nat (i := 1) rfl
  have w2 : ixD (.list [.int x4, .int x5, .int x6]) (.int 2) = .ok (.int x6) := ixL_nat (i := 2) rfl
  generalize PyData.list [.int x4, .int x5, .int x6] = W at *
  rw [seq_nx (ρ' := [.dat S false, .dat D false, .no, .no, .no, .no, .no]) (by simp [e0, e1])]
  rw [seq_nx (ρ' := [.dat S false, .dat D false, .dat (.int x1) false, .no, .no, .no, .no]) (by simp [r1])]
  obtain ⟨n, hn, hnx⟩ : ∃ n : Nat, n ≤ 16 ∧ (n : Int) = if x0 = 1 then 9 + x2 else x1 := by
    refine ⟨(if x0 = 1 then 9 + x2 else x1).toNat, ?_, ?_⟩ <;> split <;> omega
  rw [seq_nx (ρ' := [.dat S false, .dat D false, .dat (.int n) false, .no, .no, .no, .no]) (by
    rw [hnx]
    by_cases h : x0 = 1 <;> simp [r0, r2, h])]
  obtain ⟨m1, f1⟩ := hcell 1 (by decide)
  obtain ⟨rows, k1, k2, k3⟩ := hrows m1 n hn
  have k4 := hright n rows W x4 x5 x6 hn k1 k2 w0 w1 w2
  rw [seq_nx (ρ' := [.dat S false, .dat D false, .dat (.int n) false, .no, .no, .no, .no]) (by
    generalize rwsD rows = RD at *
    simp [f1, k3, rc, k4])]
  obtain ⟨sm, rfl⟩ := Int.eq_ofNat_of_zero_le d3.1
  have hsm : sm ≤ 5 := by omega
  rw [seq_nx (ρ' := [.dat S false, .dat D false, .dat (.int n) false, .dat (.int sm) false, .no, .no, .no]) (by simp [r3])]
  obtain ⟨m2, f2⟩ := hcell 2 (by decide)
  obtain ⟨rows2, j1, j2, j3⟩ := hrows m2 sm (by omega)
  have hct : slD (rwsD rows2) none (some 5) = .ok (rwsD (rows2.take 5)) := by
    unfold rwsD
    rw [slD_list, List.map_take]
    exact congrArg (fun x => R.ok (PyData.list x)) (cutD_to _ 5)
  have q1 : (rows2.take 5).length ≤ 24 := by rw [List.length_take]; omega
  have q2 : ∀ p ∈ rows2.take 5, OvP sm p := fun p hp => j2 p (List.mem_of_mem_take hp)
  have q3 := hright sm (rows2.take 5) W x4 x5 x6 (by omega) q1 q2 w0 w1 w2
  have q4 := hsort (rows2.take 5) q1
  have hL : isL (rwsD (rows2.take 5)) = true := rfl
  generalize rows2.take 5 = rw5 at *
  rw [seq_nx (ρ' := [.dat S false, .dat D false, .dat (.int n) false, .dat (.int sm) false, .dat (rwsD rw5) true, .no, .no]) (by
    generalize rwsD rows2 = RD2 at *
    generalize rwsD rw5 = RD5 at *
    simp [f2, j3, hct, hL])]
  rw [seq_nx (ρ' := [.dat S false, .dat D false, .dat (.int n) false, .dat (.int sm) false, .dat (rwsD rw5) true, .no, .no]) (by
    generalize rwsD rw5 = RD5 at *
    simp [rc, q3])]
  have fl := flat_pv (mkP rw5)
  rw [seq_nx (ρ' := [.dat S false, .dat D false, .dat (.int n) false, .dat (.int sm) false, .dat (rwsD rw5) true, .dat (pvD (mkP rw5)) false, .no]) (by
    generalize rwsD rw5 = RD5 at *
    generalize pvD (mkP rw5) = PD at *
    simp [q4, fl])]
  obtain ⟨m3, f3⟩ := hcell 3 (by decide)
  obtain ⟨bs, bl, b1⟩ := hdraw2 m3
  have hm := mul_rep (.int 32) 11 (by decide)
  have hm : mulD (.list [.int 32]) (.int 11) = .ok (.list (List.replicate 11 (.int 32))) := hm
  rw [seq_nx (ρ' := [.dat S false, .dat D false, .dat (.int n) false, .dat (.int sm) false, .dat (rwsD rw5) true, .dat (pvD (mkP rw5)) false, .dat (.list (bs.map .int)) false]) (by
    generalize rwsD rw5 = RD5 at *
    generalize pvD (mkP rw5) = PD at *
    generalize List.replicate 11 (PyData.int 32) = R11 at *
    generalize bs.map PyData.int = BS at *
    simp [f3, hm, b1])]
  have s1 := hset sm (mkP rw5) (by omega)
  have pl : (mkP rw5).length ≤ 1000 := by have := distA_le leN rw5; unfold mkP; omega
  have s2 := hcons sm (mkP rw5) (.list (bs.map .int)) hsm (fun p hp => q2 p ((mkP_mem rw5 p).mp hp)) pl (by
    intro i hi
    exact ⟨bs[i]'(by omega), ixL_nat (by rw [List.getElem?_map, List.getElem?_eq_getElem (by omega : i < bs.length)]; rfl)⟩)
  generalize valI sm (GF (St sm (mkP rw5))) = V at *
  generalize rwsD rw5 = RD5 at *
  generalize pvD (mkP rw5) = PD at *
  generalize bs.map PyData.int = BS at *
  simp [s1, s2]
theorem law_ok (ns : List Int) (h : ns.length ≤ 63) : PhN G WN FU 13 f_law [.list (ns.map .int)] = .ok (.bool true) := by
  refine (e_law 12 _).trans (u_law (Ev 12) ns ?_ ?_ ?_ ?_ ?_ ?_ ?_ ?_)
  · exact fun j hj => v_cell 11 ns h j hj
  · exact fun n => v_draws 11 n [4, 9, 8, 6, 30, 50, 9] (by decide) (limOk_of (by decide +kernel))
  · intro n
    obtain ⟨xs, hd, e⟩ := v_draws 11 n (List.replicate 11 32) (by decide) (limOk_of (by decide +kernel))
    have hl := hd.len
    rw [List.length_replicate] at hl
    refine ⟨xs, hl, ?_⟩
    have : (List.replicate 11 (32 : Int)).map PyData.int = List.replicate 11 (.int 32) := by rw [List.map_replicate]
    rw [this] at e
    exact e
  · exact fun c n hn => v__law_drawn_rows 10 c n hn
  · exact fun n rows dr x0 x1 x2 hn hl hok d0 d1 d2 => v__law_right 3 n hn rows hl hok dr x0 x1 x2 d0 d1 d2
  · exact fun rows hl => v_law_sortedA encN 11 rows (by omega)
  · intro n P hn
    have := v_settle 10 n hn P
    rwa [valD_I] at this
  · exact fun n P dr hn hP hl hd => v__law_consolidated_right 3 n hn P hP hl dr hd
end Pv.K44


open PySem PySem.W PySem.Calls PyProof.Rows
theorem PySem.Challenge.cw_pactwork_k44_settlements_and_rings_holds : PySem.Challenge.rw_pactwork_k44_settlements_and_rings.Holds := by
  w_on; o_law
  refine HandSHeadRun.head_any (r := OpenLaw.row PySem.Challenge.rw_pactwork_k44_settlements_and_rings) (q := view (OpenLaw.row PySem.Challenge.rw_pactwork_k44_settlements_and_rings).prog [58]) (H := Pv.K44.hk) (ob := Pv.K44.ob) (M := 6000) (loose := Pv.K44.looseL) (d := HandSHeadRun.topDef (OpenLaw.row PySem.Challenge.rw_pactwork_k44_settlements_and_rings).prog 58) (kwd := []) Pv.K44.ob_eq
    (by kernel_rfl) (fun s => by kernel_rfl) Pv.K44.run (by kernel_rfl) (by kernel_rfl) (by kernel_rfl) (by rfl) (by first | assumption | decide +kernel) (by decide +kernel) ⟨rfl, rfl, rfl, rfl, rfl, by decide +kernel⟩ ?hw ?hc
  case hw => w_witness2
  case hc =>
    refine L2.walk_ofE (l := PySem.Challenge.rw_pactwork_k44_settlements_and_rings) (n := 63) (k := 13 + 2) (x := "script") (CX := L2.CX0) rfl (by decide) (by kernel_rfl) ⟨rfl, by decide, by decide⟩ ?F (fun _ _ _ _ z => z)
    intro w mg fa h Y G hmg0
    obtain ⟨K, KX, no, c⟩ := Y
    have hmg : mg ("law" : PySem.Str) = some (.ref fa) := by
      have e : (HandSHeadRun.topDef (OpenLaw.row PySem.Challenge.rw_pactwork_k44_settlements_and_rings).prog 58).name = ("law" : PySem.Str) := by kernel_rfl
      rw [← e]
      exact hmg0
    have hf : Pv.K44.G.fns[45]? = some (Pv.K44.G.fns[45]'(by decide +kernel)) := List.getElem?_eq_getElem _
    have hn : (Pv.K44.G.fns[45]'(by decide +kernel)).name = ("law" : PySem.Str) := by kernel_rfl
    have hp : (Pv.K44.G.fns[45]'(by decide +kernel)).ps = [("script" : PySem.Str)] := by kernel_rfl
    exact Pv.Prg.walk (p := Pv.K44.P) Pv.K44.okP (wn := Pv.K44.WN) (fu := Pv.K44.FU) (k := 13) (n := 63) hf hp Pv.K44.law_ok KX no c G (by rw [hn]; exact hmg)
