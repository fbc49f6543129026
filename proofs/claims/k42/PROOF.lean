import PyProof.Rows.All
import Wide.All
import OpenK.AllK
import Wide.FinOn
import HandS.ForMost
import HandS.ForExc
import HandS.HeadHook2
import HandS.HeadEnd
import HandS.Head2
import HandS.Wide
import HandS.TupAny
import HandS.Deep
import HandS.Flow
import HandS.Style
import HandS.Conv
import HandS.IsInst
import HandS.TryMany
import HandS.Defaults
import KE.SortData
import KE.DataCmp
import HandS.Text
import HandS.Iter
import HandS.Comp
import HandS.Lambda
import HandS.ExcIs
import HandS.ExcField
import KE.KExcIs
import HandS.HeadHook4
import HandS.ExcInit
import HandS.Small
import KE.KExcSuper
import KE.KSuper
import HandS.WordsExc
import PySem.Challenge.RW_pactwork_k42_remedies_and_strikes
set_option Elab.async false
set_option linter.all false
set_option maxRecDepth 100001
set_option maxHeartbeats 0

namespace Pv
open PySem PySem.Spec L2
open PyProof.Rows hiding St

/-! ### results -/
inductive R (α : Type) where
  | ok (a : α) | exc (n : Str) (ds : List PyData) | bad
def R.bind {α β : Type} : R α → (α → R β) → R β
  | .ok a, k => k a
  | .exc n ds, _ => .exc n ds
  | .bad, _ => .bad
@[simp] theorem R.bind_ok {α β : Type} (a : α) (k : α → R β) : (R.ok a).bind k = k a := rfl
@[simp] theorem R.bind_exc {α β : Type} (n : Str) (ds : List PyData) (k : α → R β) : (R.exc n ds).bind k = .exc n ds := rfl
@[simp] theorem R.bind_bad {α β : Type} (k : α → R β) : (R.bad : R α).bind k = .bad := rfl

/-! ### data that a value reads as; F: lists that are not to be met in it -/
mutual
def Rp (K : PySem.W.Frag) (F : Addr → Prop) (H : Hp) : PyData → V → Prop
  | .none, v => v = .non
  | .bool b, v => v = .bl b
  | .int i, v => v = .int i
  | .str x, v => v = .str x
  | .list ds, v => ∃ a vs, v = .ref a ∧ ¬ F a ∧ Rd H a (.lst vs) ∧ Rps K F H ds vs
  | .tuple ds, v => ∃ a vs, v = .ref a ∧ SqT K H a vs ∧ Rps K F H ds vs
  | .dict _, _ => False
def Rps (K : PySem.W.Frag) (F : Addr → Prop) (H : Hp) : List PyData → List V → Prop
  | [], vs => vs = []
  | d :: ds, vs => ∃ v r, vs = v :: r ∧ Rp K F H d v ∧ Rps K F H ds r
end

/-- the lists and tuples at hand stay -/
def Stay (F : Addr → Prop) (H H' : Hp) : Prop := ∀ a o, ¬ F a → H a = some o → H' a = some o
theorem SqL.stay {K : PySem.W.Frag} {H H' : Hp} {a : Addr} {vs : List V} (h : SqL K H a vs) (s : ∀ o, H a = some o → H' a = some o) : SqL K H' a vs := by
  rcases h with (h | ⟨o, h⟩) | h
  · exact .inl (.inl (s _ h))
  · exact .inl (.inr ⟨o, s _ h⟩)
  · exact .inr h
theorem Rd.stay {H H' : Hp} {a : Addr} {o : HO} (h : Rd H a o) (s : ∀ o, H a = some o → H' a = some o) : Rd H' a o := by
  rcases h with h | ⟨u, h⟩
  · exact .inl (s _ h)
  · exact .inr ⟨u, s _ h⟩
theorem SqT.stay {K : PySem.W.Frag} {H H' : Hp} {a : Addr} {vs : List V} (h : SqT K H a vs) (s : ∀ o, H a = some o → H' a = some o) : SqT K H' a vs := by
  rcases h with (h | ⟨o, h⟩) | h
  · exact .inl (.inl (s _ h))
  · exact .inl (.inr ⟨o, s _ h⟩)
  · exact .inr h
/-- tuples, and what F does not name, stay -/
def Kp (F : Addr → Prop) (H H' : Hp) : Prop := ∀ a o, H a = some o → (¬ F a ∨ (∃ xs, o = .tup xs) ∨ ∃ u xs, o = .frz u (.tup xs)) → H' a = some o
theorem Kp.of_same {F : Addr → Prop} {H H' : Hp} (s : Same H H') : Kp F H H' := fun a o h _ => s a o h
theorem SqT.kp {K : PySem.W.Frag} {F : Addr → Prop} {H H' : Hp} {a : Addr} {vs : List V} (s : Kp F H H') (h : SqT K H a vs) : SqT K H' a vs := by
  rcases h with (h | ⟨o, h⟩) | h
  · exact .inl (.inl (s _ _ h (.inr (.inl ⟨_, rfl⟩))))
  · exact .inl (.inr ⟨o, s _ _ h (.inr (.inr ⟨_, _, rfl⟩))⟩)
  · exact .inr h

section
variable {K : PySem.W.Frag} {F F' : Addr → Prop} {H H' : Hp}
mutual
theorem Rp.keep (s : Kp F H H') (hF : ∀ a, F' a → F a) : ∀ (d : PyData) (v : V), Rp K F H d v → Rp K F' H' d v
  | .none, _, h => h
  | .bool _, _, h => h
  | .int _, _, h => h
  | .str _, _, h => h
  | .list ds, _, ⟨a, vs, e, nf, q, r⟩ => ⟨a, vs, e, fun z => nf (hF a z), Rd.stay q fun o ho => s a o ho (.inl nf), Rps.keep s hF ds vs r⟩
  | .tuple ds, _, ⟨a, vs, e, q, r⟩ => ⟨a, vs, e, SqT.kp s q, Rps.keep s hF ds vs r⟩
  | .dict _, _, h => h
theorem Rps.keep (s : Kp F H H') (hF : ∀ a, F' a → F a) : ∀ (ds : List PyData) (vs : List V), Rps K F H ds vs → Rps K F' H' ds vs
  | [], _, h => h
  | d :: ds, _, ⟨v, r, e, h1, h2⟩ => ⟨v, r, e, Rp.keep s hF d v h1, Rps.keep s hF ds r h2⟩
end
theorem Rp.same {d : PyData} {v : V} (h : Rp K F H d v) (s : Same H H') : Rp K F H' d v := Rp.keep (Kp.of_same s) (fun _ z => z) d v h
theorem Rps.same {d : List PyData} {v : List V} (h : Rps K F H d v) (s : Same H H') : Rps K F H' d v := Rps.keep (Kp.of_same s) (fun _ z => z) d v h
theorem Rp.less {d : PyData} {v : V} (h : Rp K F H d v) (hF : ∀ a, F' a → F a) : Rp K F' H d v := Rp.keep (Kp.of_same (Same.refl H)) hF d v h
theorem Rps.less {d : List PyData} {v : List V} (h : Rps K F H d v) (hF : ∀ a, F' a → F a) : Rps K F' H d v := Rps.keep (Kp.of_same (Same.refl H)) hF d v h
/-- no list within -/
def flat : PyData → Bool
  | .none | .bool _ | .int _ | .str _ => true
  | .tuple ds => flats ds
  | .list _ | .dict _ => false
where flats : List PyData → Bool
  | [] => true
  | d :: ds => flat d && flats ds
mutual
theorem Rp.flat : ∀ (d : PyData) (v : V), flat d = true → Rp K F H d v → Rp K F' H d v
  | .none, _, _, h => h
  | .bool _, _, _, h => h
  | .int _, _, _, h => h
  | .str _, _, _, h => h
  | .tuple ds, _, z, ⟨a, vs, e, q, r⟩ => ⟨a, vs, e, q, Rps.flat ds vs z r⟩
  | .list _, _, z, _ => nomatch z
  | .dict _, _, z, _ => nomatch z
theorem Rps.flat : ∀ (ds : List PyData) (vs : List V), flat.flats ds = true → Rps K F H ds vs → Rps K F' H ds vs
  | [], _, _, h => h
  | d :: ds, _, z, ⟨v, r, e, h1, h2⟩ => by
    have z' : (Pv.flat d && flat.flats ds) = true := z
    rw [Bool.and_eq_true] at z'
    exact ⟨v, r, e, Rp.flat d v z'.1 h1, Rps.flat ds r z'.2 h2⟩
end
/-- at hand to be read: a list of one's own too -/
def Rb (K : PySem.W.Frag) (F : Addr → Prop) (H : Hp) : PyData → V → Prop
  | .list ds, v => ∃ a vs, v = .ref a ∧ Rd H a (.lst vs) ∧ Rps K F H ds vs
  | d, v => Rp K F H d v
theorem Rp.rb {d : PyData} {v : V} (h : Rp K F H d v) : Rb K F H d v := by
  cases d with
  | list ds => obtain ⟨a, vs, e, _, q, r⟩ := h; exact ⟨a, vs, e, q, r⟩
  | _ => exact h
theorem Rb.same {d : PyData} {v : V} (h : Rb K F H d v) (s : Same H H') : Rb K F H' d v := by
  cases d with
  | list ds => obtain ⟨a, vs, e, q, r⟩ := h; exact ⟨a, vs, e, Rd.stay q fun o ho => s a o ho, r.same s⟩
  | none => exact Rp.same (K := K) (F := F) (d := .none) h s
  | bool b => exact Rp.same (K := K) (F := F) (d := .bool b) h s
  | int i => exact Rp.same (K := K) (F := F) (d := .int i) h s
  | str x => exact Rp.same (K := K) (F := F) (d := .str x) h s
  | tuple ds => exact Rp.same (K := K) (F := F) (d := .tuple ds) h s
  | dict ds => exact False.elim h
theorem Rps.length : ∀ {ds : List PyData} {vs : List V}, Rps K F H ds vs → ds.length = vs.length
  | [], vs, h => by have h : vs = [] := h; subst h; rfl
  | d :: ds, vs, h => by
    obtain ⟨v, r, e, _, h2⟩ := h
    subst e
    simp [Rps.length h2]
theorem Rps.append : ∀ {ds es : List PyData} {vs ws : List V}, Rps K F H ds vs → Rps K F H es ws → Rps K F H (ds ++ es) (vs ++ ws)
  | [], es, vs, ws, h, g => by have h : vs = [] := h; subst h; exact g
  | d :: ds, es, vs, ws, h, g => by
    obtain ⟨v, r, e, h1, h2⟩ := h
    subst e
    exact ⟨v, r ++ ws, rfl, h1, Rps.append h2 g⟩
theorem Rps.one {d : PyData} {v : V} (h : Rp K F H d v) : Rps K F H [d] [v] := ⟨v, [], rfl, h, rfl⟩
theorem Rps.get : ∀ {ds : List PyData} {vs : List V} {i : Nat} {d : PyData}, Rps K F H ds vs → ds[i]? = some d → ∃ v, vs[i]? = some v ∧ Rp K F H d v
  | [], _, _, _, _, e => by simp at e
  | d :: ds, vs, 0, _, h, e => by
    obtain ⟨v, r, rfl, h1, _⟩ := h
    simp at e; subst e
    exact ⟨v, rfl, h1⟩
  | d :: ds, vs, i + 1, x, h, e => by
    obtain ⟨v, r, rfl, _, h2⟩ := h
    obtain ⟨u, e1, e2⟩ := Rps.get (i := i) (d := x) h2 (by simpa using e)
    exact ⟨u, by simpa using e1, e2⟩
theorem Rps.take : ∀ {ds : List PyData} {vs : List V} (n : Nat), Rps K F H ds vs → Rps K F H (ds.take n) (vs.take n)
  | [], vs, n, h => by have h : vs = [] := h; subst h; simp [Rps]
  | d :: ds, vs, 0, h => by simp [Rps]
  | d :: ds, vs, n + 1, h => by
    obtain ⟨v, r, rfl, h1, h2⟩ := h
    exact ⟨v, r.take n, by simp, h1, Rps.take n h2⟩
theorem Rps.drop : ∀ {ds : List PyData} {vs : List V} (n : Nat), Rps K F H ds vs → Rps K F H (ds.drop n) (vs.drop n)
  | [], vs, n, h => by have h : vs = [] := h; subst h; simp [Rps]
  | d :: ds, vs, 0, h => h
  | d :: ds, vs, n + 1, h => by
    obtain ⟨v, r, rfl, h1, h2⟩ := h
    exact Rps.drop n h2
theorem Rps.set {d : PyData} {v : V} (q : Rp K F H d v) : ∀ {ds : List PyData} {vs : List V} (i : Nat), Rps K F H ds vs → Rps K F H (ds.set i d) (vs.set i v)
  | [], vs, i, h => by have h : vs = [] := h; subst h; simp [Rps]
  | e :: ds, vs, 0, h => by
    obtain ⟨u, r, rfl, h1, h2⟩ := h
    exact ⟨v, r, rfl, q, h2⟩
  | e :: ds, vs, i + 1, h => by
    obtain ⟨u, r, rfl, h1, h2⟩ := h
    exact ⟨u, r.set i v, rfl, h1, Rps.set q i h2⟩
theorem Rps.rep {ds : List PyData} {vs : List V} (h : Rps K F H ds vs) : ∀ n : Nat, Rps K F H (List.replicate n ds).flatten (List.replicate n vs).flatten
  | 0 => rfl
  | n + 1 => by
    rw [List.replicate_succ, List.replicate_succ, List.flatten_cons, List.flatten_cons]
    exact Rps.append h (Rps.rep h n)
theorem Rps.rev : ∀ {ds : List PyData} {vs : List V}, Rps K F H ds vs → Rps K F H ds.reverse vs.reverse
  | [], vs, h => by have h : vs = [] := h; subst h; simp [Rps]
  | d :: ds, vs, h => by
    obtain ⟨v, r, rfl, h1, h2⟩ := h
    rw [List.reverse_cons, List.reverse_cons]
    exact Rps.append (Rps.rev h2) (Rps.one h1)

/-! the library's Dp -/
mutual
theorem Rp.dp : ∀ (d : PyData) (v : V), Rp K F H d v → Dp K H v d
  | .none, _, h => by cases h; exact .non
  | .bool b, _, h => by cases h; exact .bl b
  | .int i, _, h => by cases h; exact .int i
  | .str x, _, h => by cases h; exact .str x
  | .list ds, _, ⟨a, vs, e, _, q, r⟩ => by subst e; exact .lst (.inl q) (Rps.dp ds vs r)
  | .tuple ds, _, ⟨a, vs, e, q, r⟩ => by subst e; exact .tup q (Rps.dp ds vs r)
  | .dict _, _, h => False.elim h
theorem Rps.dp : ∀ (ds : List PyData) (vs : List V), Rps K F H ds vs → DpAll K H vs ds
  | [], _, h => by cases h; exact .nil
  | d :: ds, _, ⟨v, r, e, h1, h2⟩ => by subst e; exact .cons (Rp.dp d v h1) (Rps.dp ds r h2)
end
theorem Rb.dp {d : PyData} {v : V} (h : Rb K F H d v) : Dp K H v d := by
  cases d with
  | list ds => obtain ⟨a, vs, e, q, r⟩ := h; subst e; exact .lst (.inl q) (Rps.dp ds vs r)
  | none => exact Rp.dp (F := F) .none v h
  | bool b => exact Rp.dp (F := F) (.bool b) v h
  | int i => exact Rp.dp (F := F) (.int i) v h
  | str x => exact Rp.dp (F := F) (.str x) v h
  | tuple ds => exact Rp.dp (F := F) (.tuple ds) v h
  | dict ds => exact Rp.dp (F := F) (.dict ds) v h
end

/-! ### the names' data -/
inductive Sl where
  | no | dat (d : PyData) (own : Bool) | exn (n : Str) (ds : List PyData)
abbrev En := List Sl
def Own (ρ : En) (σ : St) (a : Addr) : Prop := ∃ (i : Nat) (d : PyData), ρ[i]? = some (.dat d true) ∧ σ[i]? = some (some (.ref a))
abbrev FF (F : Addr → Prop) (ρ : En) (σ : St) : Addr → Prop := fun a => F a ∨ Own ρ σ a

/-- an exception of the class n with the fields' data ds -/
structure Gx where
  mg : Str → Option Value
  flds : Str → List Str
  sx : Option (Addr × Addr × Option Addr) := none
def XR (K : PySem.W.Frag) (G : Gx) (F : Addr → Prop) (H : Hp) (n : Str) (ds : List PyData) (cls : Value) (od : Option Addr) : Prop :=
  ∃ C, G.mg n = some (.ref C) ∧ cls = .ref C ∧ ((G.flds n = [] ∧ ds = [] ∧ od = none) ∨ (G.flds n ≠ [] ∧ ∃ dx vs, od = some dx ∧ H dx = some (.xd ((G.flds n).zip vs)) ∧ (G.flds n).length = vs.length ∧ Rps K F H ds vs))
structure RE (K : PySem.W.Frag) (G : Gx) (F : Addr → Prop) (H₀ : Hp) (M : Addr → Prop) (ρ : En) (σ : St) (H : Hp) : Prop where
  len : ρ.length = σ.length
  pl : ∀ (i : Nat) (d : PyData), ρ[i]? = some (.dat d false) → ∃ v, σ[i]? = some (some v) ∧ Rp K (FF F ρ σ) H d v
  ow : ∀ (i : Nat) (d : PyData), ρ[i]? = some (.dat d true) → ∃ ds a vs, d = .list ds ∧ σ[i]? = some (some (.ref a)) ∧ H a = some (.lst vs) ∧ Rps K (FF F ρ σ) H ds vs
  un : ∀ (i j : Nat) (d e : PyData) (a : Addr), ρ[i]? = some (.dat d true) → ρ[j]? = some (.dat e true) → σ[i]? = some (some (.ref a)) → σ[j]? = some (some (.ref a)) → i = j
  frm : ∀ a o, H₀ a = some o → ¬ M a → H a = some o
  own : ∀ a, Own ρ σ a → (H₀ a = none ∨ M a) ∧ ¬ F a
  fn : ∀ a, F a → Mut (H₀ a) ∧ ¬ M a
  ex : ∀ (i : Nat) (n : Str) (ds : List PyData), ρ[i]? = some (.exn n ds) → ∃ a C od, G.sx = some (a, C, od) ∧ σ[i]? = some (some (.ref a)) ∧ XR K G (FF F ρ σ) H n ds (.ref C) od

section
variable {K : PySem.W.Frag} {G : Gx} {F F' M : Addr → Prop} {H₀ H H' : Hp} {ρ : En} {σ : St}
theorem XR.keep {n : Str} {ds : List PyData} {cls : Value} {od : Option Addr} (h : XR K G F H n ds cls od) (hx : ∀ dx fs, H dx = some (.xd fs) → H' dx = some (.xd fs)) (hk : ∀ vs, Rps K F H ds vs → Rps K F' H' ds vs) : XR K G F' H' n ds cls od := by
  obtain ⟨C, h1, h2, h3⟩ := h
  refine ⟨C, h1, h2, ?_⟩
  rcases h3 with h3 | ⟨h4, dx, ws, h5, h6, h7, h8⟩
  · exact .inl h3
  · exact .inr ⟨h4, dx, ws, h5, hx _ _ h6, h7, hk _ h8⟩
theorem XR.same {n : Str} {ds : List PyData} {cls : Value} {od : Option Addr} (h : XR K G F H n ds cls od) (s : Same H H') : XR K G F H' n ds cls od := h.keep (fun _ _ e => s _ _ e) fun _ r => r.same s
theorem XR.less {n : Str} {ds : List PyData} {cls : Value} {od : Option Addr} (h : XR K G F H n ds cls od) (hF : ∀ a, F' a → F a) : XR K G F' H n ds cls od := h.keep (fun _ _ e => e) fun _ r => r.less hF
theorem RE.same (r : RE K G F H₀ M ρ σ H) (s : Same H H') : RE K G F H₀ M ρ σ H' where
  len := r.len
  pl := fun i d e => let ⟨v, e1, q⟩ := r.pl i d e; ⟨v, e1, q.same s⟩
  ow := fun i d e => let ⟨ds, a, vs, e0, e1, e2, q⟩ := r.ow i d e; ⟨ds, a, vs, e0, e1, s _ _ e2, q.same s⟩
  un := r.un
  frm := fun a o h m => s a o (r.frm a o h m)
  own := r.own
  fn := r.fn
  ex := fun i n ds e => let ⟨a, C, od, e1, e2, x⟩ := r.ex i n ds e; ⟨a, C, od, e1, e2, x.same s⟩
theorem mut_some {o : Option HO} (h : Mut o) : ∃ u, o = some u := by
  cases o with
  | none => exact False.elim h
  | some u => exact ⟨u, rfl⟩
theorem RE.ff (r : RE K G F H₀ M ρ σ H) {a : Addr} (h : FF F ρ σ a) : Mut (H a) := by
  rcases h with h | ⟨i, d, e1, e2⟩
  · obtain ⟨mu, m⟩ := r.fn a h
    obtain ⟨o, e⟩ := mut_some mu
    rw [r.frm a o e m, ← e]
    exact mu
  · obtain ⟨ds, b, vs, _, e3, e4, _⟩ := r.ow i d e1
    rw [e2] at e3
    injection e3 with e3; injection e3 with e3; injection e3 with e3
    subst e3
    rw [e4]
    trivial
theorem RE.new (r : RE K G F H₀ M ρ σ H) {p : Addr} (h : H p = none) : ¬ FF F ρ σ p := fun z => by
  have := r.ff z
  rw [h] at this
  exact this
end

/-! ### what is asked behind -/
section
variable {α β γ δ : Type}
def Post (K : PySem.W.Frag) (G : Gx) (W : WX) (rep : (Addr → Prop) → Hp → α → β → Prop) (σ : St) (F : Addr → Prop) (H : Hp) (r : R α) (Q : β → Hp → Prop) : Prop :=
  match r with
  | .ok d => ∀ v H', Same H H' → rep F H' d v → Q v H'
  | .exc n ds => ∀ cls od H', Same H H' → XR K G F H' n ds cls od → W cls od σ H'
  | .bad => False
variable {K : PySem.W.Frag} {G : Gx} {W : WX} {σ : St} {F : Addr → Prop} {H H' : Hp} {rep : (Addr → Prop) → Hp → α → β → Prop} {rep2 : (Addr → Prop) → Hp → γ → δ → Prop}
theorem Post.same {r : R α} {Q : β → Hp → Prop} (p : Post K G W rep σ F H r Q) (s : Same H H') : Post K G W rep σ F H' r Q := by
  cases r with
  | ok d => exact fun v H1 s1 q => p v H1 (s.trans s1) q
  | exc n ds => exact fun c o H1 s1 q => p c o H1 (s.trans s1) q
  | bad => exact p
theorem Post.bind {r : R γ} {k : γ → R α} {Q : β → Hp → Prop} {P : δ → Hp → Prop} (p : Post K G W rep σ F H (r.bind k) Q)
    (h : ∀ a x H1, Same H H1 → rep2 F H1 a x → Post K G W rep σ F H1 (k a) Q → P x H1) : Post K G W rep2 σ F H r P := by
  cases r with
  | ok a => exact fun x H1 s1 q => h a x H1 s1 q (Post.same p s1)
  | exc n ds => exact p
  | bad => exact p
theorem Post.fin {d : α} {v : β} {Q : β → Hp → Prop} (p : Post K G W rep σ F H (.ok d) Q) (s : Same H H') (q : rep F H' d v) : Q v H' := p v H' s q
/-- a reading by what an evaluation gives -/
def tR (K : PySem.W.Frag) (G : Gx) (W : WX) (rep : (Addr → Prop) → Hp → α → β → Prop) (c : En → R α) : St → Hp → (β → Hp → Prop) → Prop := fun σ H Q =>
  ∃ F H₀ M ρ, RE K G F H₀ M ρ σ H ∧ Post K G W rep σ (FF F ρ σ) H (c ρ) Q
end
end Pv


/-! == and != of data, whatever signs the texts have -/
namespace Pv
open PySem PySem.Spec L2 PySem.SeqAt
open PyProof.Rows hiding St
mutual
def noDic : PyData → Bool
  | .dict _ => false
  | .list xs | .tuple xs => noDics xs
  | _ => true
def noDics : List PyData → Bool
  | [] => true
  | x :: xs => noDic x && noDics xs
end
theorem noDics_cons {x : PyData} {xs : List PyData} (h : noDics (x :: xs) = true) : noDic x = true ∧ noDics xs = true := by
  rwa [noDics, Bool.and_eq_true] at h
mutual
theorem rd_one {h : Heap} : ∀ (d d' : PyData) (v : Value) (as as' : List Addr), noDic d = true → Reads h v d as → Reads h v d' as' → d = d'
  | .none, _, _, _, _, _, r, r' | .bool _, _, _, _, _, _, r, r' | .int _, _, _, _, _, _, r, r' | .str _, _, _, _, _, _, r, r' => by cases r; cases r'; rfl
  | .dict _, _, _, _, _, z, _, _ => nomatch z
  | .list xs, _, _, _, _, z, r, r' => by
    cases r with | list a1 a2 a3 a4 => ?_
    cases r' with
    | list b1 b2 b3 b4 =>
      cases a1.symm.trans b1; cases a3.symm.trans b3
      exact congrArg PyData.list (rds_one xs _ _ _ _ z a4 b4)
    | tuple b1 b2 => cases a1.symm.trans b1; rw [a2] at b2; simp at b2
    | dict b1 b2 => cases a1.symm.trans b1; rw [a2] at b2; simp at b2
  | .tuple xs, _, _, _, _, z, r, r' => by
    cases r with | tuple a1 a2 a3 a4 => ?_
    cases r' with
    | tuple b1 b2 b3 b4 =>
      cases a1.symm.trans b1; cases a3.symm.trans b3
      exact congrArg PyData.tuple (rds_one xs _ _ _ _ z a4 b4)
    | list b1 b2 => cases a1.symm.trans b1; rw [a2] at b2; simp at b2
    | dict b1 b2 => cases a1.symm.trans b1; rw [a2] at b2; simp at b2
theorem rds_one {h : Heap} : ∀ (ds ds' : List PyData) (vs : List Value) (as as' : List Addr), noDics ds = true → ReadsAll h vs ds as → ReadsAll h vs ds' as' → ds = ds'
  | [], _, _, _, _, _, r, r' => by cases r; cases r'; rfl
  | d :: ds, _, _, _, _, z, r, r' => by
    cases r with | cons a1 a2 => ?_
    cases r' with | cons b1 b2 => ?_
    rw [rd_one d _ _ _ _ (noDics_cons z).1 a1 b1, rds_one ds _ _ _ _ (noDics_cons z).2 a2 b2]
end
mutual
theorem eqv_self : ∀ d : PyData, noDic d = true → PyData.eqv d d = true
  | .none, _ => rfl
  | .bool _, _ | .int _, _ | .str _, _ => by simp [PyData.eqv]
  | .list xs, z | .tuple xs, z => by rw [PyData.eqv]; exact eqvs_self xs z
  | .dict _, z => nomatch z
theorem eqvs_self : ∀ ds : List PyData, noDics ds = true → PyData.eqvAll ds ds = true
  | [], _ => rfl
  | d :: ds, z => by rw [PyData.eqvAll, eqv_self d (noDics_cons z).1, eqvs_self ds (noDics_cons z).2]; rfl
end
mutual
theorem eq_at : ∀ (d e : PyData) (A : Around) (s : Shared) (a b : Value) (as bs : List Addr), Reads s.heap a d as → Reads s.heap b e bs → noDic d = true → noDic e = true →
    A.units + min d.depth e.depth < cLine → EqAt A s a b (PyData.eqv d e)
  | d, e, A, s, a, b, as, bs, ra, rb, zd, ze, hu => by
    have u0 := room_here hu
    cases ra with
    | none =>
      cases rb with
      | none => exact EqAt.same _
      | bool y => exact .none_bool y
      | int y u => exact .none_int y u
      | str y u => exact .none_str y u
      | list b1 b2 b3 => exact .none_list ⟨_, b1, b2, _, b3⟩ u0
      | tuple b1 b2 b3 => exact .none_tuple ⟨_, b1, b2, _, b3⟩ u0
      | dict => exact nomatch ze
    | bool x =>
      cases rb with
      | none => exact .bool_none x
      | bool y => exact .bool_bool x y
      | int y u => exact .bool_int x y u
      | str y u => exact .bool_str x y u
      | list b1 b2 b3 => exact .bool_list x ⟨_, b1, b2, _, b3⟩ u0
      | tuple b1 b2 b3 => exact .bool_tuple x ⟨_, b1, b2, _, b3⟩ u0
      | dict => exact nomatch ze
    | int x t =>
      cases rb with
      | none => exact .int_none x t
      | bool y => exact .int_bool x t y
      | int y u => exact .int_int x t y u
      | str y u => exact .int_str x t y u
      | list b1 b2 b3 => exact .int_list x t ⟨_, b1, b2, _, b3⟩ u0
      | tuple b1 b2 b3 => exact .int_tuple x t ⟨_, b1, b2, _, b3⟩ u0
      | dict => exact nomatch ze
    | str x t =>
      cases rb with
      | none => exact .str_none x t
      | bool y => exact .str_bool x t y
      | int y u => exact .str_int x t y u
      | str y u => exact .str_str x t y u
      | list b1 b2 b3 => exact .str_list x t ⟨_, b1, b2, _, b3⟩ u0
      | tuple b1 b2 b3 => exact .str_tuple x t ⟨_, b1, b2, _, b3⟩ u0
      | dict => exact nomatch ze
    | dict => exact nomatch zd
    | @list l _ vs _ xs _ a1 a2 a3 a4 =>
      have ql : s.heap.IsList l vs := ⟨_, a1, a2, _, a3⟩
      cases rb with
      | none => exact .list_none ql u0
      | bool y => exact .list_bool y ql u0
      | int y u => exact .list_int y u ql u0
      | str y u => exact .list_str y u ql u0
      | tuple b1 b2 b3 => exact .list_tuple ql ⟨_, b1, b2, _, b3⟩ u0
      | dict => exact nomatch ze
      | @list m _ ws _ ys _ b1 b2 b3 b4 =>
        have qm : s.heap.IsList m ws := ⟨_, b1, b2, _, b3⟩
        have c1 : vs.size = xs.length := by have := ReadsAll.length _ _ _ a4; simpa using this
        have c2 : ws.size = ys.length := by have := ReadsAll.length _ _ _ b4; simpa using this
        change EqAt A s _ _ (PyData.eqvAll xs ys)
        by_cases q : l = m
        · subst q
          cases a1.symm.trans b1; cases a3.symm.trans b3
          cases rds_one xs ys _ _ _ zd a4 b4
          rw [eqvs_self xs zd]
          exact EqAt.same _
        · by_cases z : vs.size = ws.size
          · rw [← eqvAll_same_length (by omega : xs.length = ys.length), ← c1]
            exact EqAt.of_refs q (RcAt.lists ql qm z u0 fun j j1 j2 => eqs_at xs ys A.in1 s vs.toList ws.toList _ _ a4 b4 zd ze (room_in hu) j (by simpa using j1) (by simpa using j2))
          · rw [eqvAll_other_length (by omega : xs.length ≠ ys.length)]
            exact EqAt.of_refs q (RcAt.lists_lengths ql qm (by simpa using z) u0)
    | @tuple l _ vs _ xs _ a1 a2 a3 a4 =>
      have ql : s.heap.IsTuple l vs := ⟨_, a1, a2, _, a3⟩
      cases rb with
      | none => exact .tuple_none ql u0
      | bool y => exact .tuple_bool y ql u0
      | int y u => exact .tuple_int y u ql u0
      | str y u => exact .tuple_str y u ql u0
      | list b1 b2 b3 => exact .tuple_list ql ⟨_, b1, b2, _, b3⟩ u0
      | dict => exact nomatch ze
      | @tuple m _ ws _ ys _ b1 b2 b3 b4 =>
        have qm : s.heap.IsTuple m ws := ⟨_, b1, b2, _, b3⟩
        have c1 : vs.size = xs.length := by have := ReadsAll.length _ _ _ a4; simpa using this
        have c2 : ws.size = ys.length := by have := ReadsAll.length _ _ _ b4; simpa using this
        change EqAt A s _ _ (PyData.eqvAll xs ys)
        by_cases q : l = m
        · subst q
          cases a1.symm.trans b1; cases a3.symm.trans b3
          cases rds_one xs ys _ _ _ zd a4 b4
          rw [eqvs_self xs zd]
          exact EqAt.same _
        · rw [← eqvAll_eq xs ys, ← c1, ← c2]
          exact EqAt.of_refs q (RcAt.tuples ql qm u0 fun j j1 j2 => eqs_at xs ys A.in1 s vs.toList ws.toList _ _ a4 b4 zd ze (room_in hu) j (by simpa using j1) (by simpa using j2))
termination_by d => sizeOf d
decreasing_by all_goals (subst_vars; simp_wf; try omega)
theorem eqs_at : ∀ (ds es : List PyData) (A : Around) (s : Shared) (vs ws : List Value) (as bs : List Addr), ReadsAll s.heap vs ds as → ReadsAll s.heap ws es bs → noDics ds = true → noDics es = true →
    A.units + min (PyData.depthAll ds) (PyData.depthAll es) < cLine → ∀ j (h1 : j < vs.length) (h2 : j < ws.length), EqAt A s vs[j] ws[j] (pairEq ds es j)
  | [], _, _, _, _, _, _, _, ra, _, _, _, _, j, h1, _ => by cases ra; exact absurd h1 (Nat.not_lt_zero _)
  | _ :: _, [], _, _, _, _, _, _, _, rb, _, _, _, j, _, h2 => by cases rb; exact absurd h2 (Nat.not_lt_zero _)
  | d :: ds, e :: es, A, s, _, _, _, _, ra, rb, zd, ze, hu, j, h1, h2 => by
    cases ra with | cons a1 a2 => ?_
    cases rb with | cons b1 b2 => ?_
    cases j with
    | zero => exact eq_at d e A s _ _ _ _ a1 b1 (noDics_cons zd).1 (noDics_cons ze).1 (room_head hu)
    | succ j => exact eqs_at ds es A s _ _ _ _ a2 b2 (noDics_cons zd).2 (noDics_cons ze).2 (room_tail hu) j (Nat.lt_of_succ_lt_succ h1) (Nat.lt_of_succ_lt_succ h2)
termination_by ds => sizeOf ds
decreasing_by all_goals (simp_wf; try omega)
end
theorem rc_eq {d e : PyData} {A : Around} {s : Shared} {a b : Value} {as bs : List Addr} (ra : Reads s.heap a d as) (rb : Reads s.heap b e bs) (zd : noDic d = true) (ze : noDic e = true)
    (hu : A.units + min d.depth e.depth < cLine) : RcAt A s a b (PyData.eqv d e) := by
  have u0 := room_here hu
  cases ra with
  | none =>
    cases rb with
    | none => exact RcAt.none_none
    | bool y => exact RcAt.none_bool y
    | int y u => exact RcAt.none_int y u
    | str y u => exact RcAt.none_str y u
    | list b1 b2 b3 => exact RcAt.none_list ⟨_, b1, b2, _, b3⟩ u0
    | tuple b1 b2 b3 => exact RcAt.none_tuple ⟨_, b1, b2, _, b3⟩ u0
    | dict => exact nomatch ze
  | bool x =>
    cases rb with
    | none => exact RcAt.bool_none x
    | bool y => exact RcAt.bool_bool x y
    | int y u => exact RcAt.bool_int x y u
    | str y u => exact RcAt.bool_str x y u
    | list b1 b2 b3 => exact RcAt.bool_list x ⟨_, b1, b2, _, b3⟩ u0
    | tuple b1 b2 b3 => exact RcAt.bool_tuple x ⟨_, b1, b2, _, b3⟩ u0
    | dict => exact nomatch ze
  | int x t =>
    cases rb with
    | none => exact RcAt.int_none x t
    | bool y => exact RcAt.int_bool x t y
    | int y u => exact RcAt.int_int x t y u
    | str y u => exact RcAt.int_str x t y u
    | list b1 b2 b3 => exact RcAt.int_list x t ⟨_, b1, b2, _, b3⟩ u0
    | tuple b1 b2 b3 => exact RcAt.int_tuple x t ⟨_, b1, b2, _, b3⟩ u0
    | dict => exact nomatch ze
  | str x t =>
    cases rb with
    | none => exact RcAt.str_none x t
    | bool y => exact RcAt.str_bool x t y
    | int y u => exact RcAt.str_int x t y u
    | str y u => exact RcAt.str_str x t y u
    | list b1 b2 b3 => exact RcAt.str_list x t ⟨_, b1, b2, _, b3⟩ u0
    | tuple b1 b2 b3 => exact RcAt.str_tuple x t ⟨_, b1, b2, _, b3⟩ u0
    | dict => exact nomatch ze
  | dict => exact nomatch zd
  | @list l _ vs _ xs _ a1 a2 a3 a4 =>
    have ql : s.heap.IsList l vs := ⟨_, a1, a2, _, a3⟩
    cases rb with
    | none => exact RcAt.list_none ql u0
    | bool y => exact RcAt.list_bool y ql u0
    | int y u => exact RcAt.list_int y u ql u0
    | str y u => exact RcAt.list_str y u ql u0
    | tuple b1 b2 b3 => exact RcAt.list_tuple ql ⟨_, b1, b2, _, b3⟩ u0
    | dict => exact nomatch ze
    | @list m _ ws _ ys _ b1 b2 b3 b4 =>
      have qm : s.heap.IsList m ws := ⟨_, b1, b2, _, b3⟩
      have c1 : vs.size = xs.length := by have := ReadsAll.length _ _ _ a4; simpa using this
      have c2 : ws.size = ys.length := by have := ReadsAll.length _ _ _ b4; simpa using this
      have he : ∀ j (h1 : j < vs.size) (h2 : j < ws.size), EqAt A.in1 s vs[j] ws[j] (pairEq xs ys j) := fun j j1 j2 => eqs_at xs ys A.in1 s vs.toList ws.toList _ _ a4 b4 zd ze (room_in hu) j (by simpa using j1) (by simpa using j2)
      change RcAt A s _ _ (PyData.eqvAll xs ys)
      by_cases z : vs.size = ws.size
      · rw [← eqvAll_same_length (by omega : xs.length = ys.length), ← c1]
        exact RcAt.lists ql qm z u0 he
      · rw [eqvAll_other_length (by omega : xs.length ≠ ys.length)]
        exact RcAt.lists_lengths ql qm (by simpa using z) u0
  | @tuple l _ vs _ xs _ a1 a2 a3 a4 =>
    have ql : s.heap.IsTuple l vs := ⟨_, a1, a2, _, a3⟩
    cases rb with
    | none => exact RcAt.tuple_none ql u0
    | bool y => exact RcAt.tuple_bool y ql u0
    | int y u => exact RcAt.tuple_int y u ql u0
    | str y u => exact RcAt.tuple_str y u ql u0
    | list b1 b2 b3 => exact RcAt.tuple_list ql ⟨_, b1, b2, _, b3⟩ u0
    | dict => exact nomatch ze
    | @tuple m _ ws _ ys _ b1 b2 b3 b4 =>
      have qm : s.heap.IsTuple m ws := ⟨_, b1, b2, _, b3⟩
      have c1 : vs.size = xs.length := by have := ReadsAll.length _ _ _ a4; simpa using this
      have c2 : ws.size = ys.length := by have := ReadsAll.length _ _ _ b4; simpa using this
      have he : ∀ j (h1 : j < vs.size) (h2 : j < ws.size), EqAt A.in1 s vs[j] ws[j] (pairEq xs ys j) := fun j j1 j2 => eqs_at xs ys A.in1 s vs.toList ws.toList _ _ a4 b4 zd ze (room_in hu) j (by simpa using j1) (by simpa using j2)
      change RcAt A s _ _ (PyData.eqvAll xs ys)
      rw [← eqvAll_eq xs ys, ← c1, ← c2]
      exact RcAt.tuples ql qm u0 he
theorem rc_ne {d e : PyData} {A : Around} {s : Shared} {a b : Value} {as bs : List Addr} (ra : Reads s.heap a d as) (rb : Reads s.heap b e bs) (zd : noDic d = true) (ze : noDic e = true)
    (hu : A.units + min d.depth e.depth < cLine) : RcNeAt A s a b (!PyData.eqv d e) := by
  have u0 := room_here hu
  cases ra with
  | none =>
    cases rb with
    | none => exact RcNeAt.none_none
    | bool y => exact RcNeAt.none_bool y
    | int y u => exact RcNeAt.none_int y u
    | str y u => exact RcNeAt.none_str y u
    | list b1 b2 b3 => exact RcNeAt.none_list ⟨_, b1, b2, _, b3⟩ u0
    | tuple b1 b2 b3 => exact RcNeAt.none_tuple ⟨_, b1, b2, _, b3⟩ u0
    | dict => exact nomatch ze
  | bool x =>
    cases rb with
    | none => exact RcNeAt.bool_none x
    | bool y => exact RcNeAt.bool_bool x y
    | int y u => exact RcNeAt.bool_int x y u
    | str y u => exact RcNeAt.bool_str x y u
    | list b1 b2 b3 => exact RcNeAt.bool_list x ⟨_, b1, b2, _, b3⟩ u0
    | tuple b1 b2 b3 => exact RcNeAt.bool_tuple x ⟨_, b1, b2, _, b3⟩ u0
    | dict => exact nomatch ze
  | int x t =>
    cases rb with
    | none => exact RcNeAt.int_none x t
    | bool y => exact RcNeAt.int_bool x t y
    | int y u => exact RcNeAt.int_int x t y u
    | str y u => exact RcNeAt.int_str x t y u
    | list b1 b2 b3 => exact RcNeAt.int_list x t ⟨_, b1, b2, _, b3⟩ u0
    | tuple b1 b2 b3 => exact RcNeAt.int_tuple x t ⟨_, b1, b2, _, b3⟩ u0
    | dict => exact nomatch ze
  | str x t =>
    cases rb with
    | none => exact RcNeAt.str_none x t
    | bool y => exact RcNeAt.str_bool x t y
    | int y u => exact RcNeAt.str_int x t y u
    | str y u => exact RcNeAt.str_str x t y u
    | list b1 b2 b3 => exact RcNeAt.str_list x t ⟨_, b1, b2, _, b3⟩ u0
    | tuple b1 b2 b3 => exact RcNeAt.str_tuple x t ⟨_, b1, b2, _, b3⟩ u0
    | dict => exact nomatch ze
  | dict => exact nomatch zd
  | @list l _ vs _ xs _ a1 a2 a3 a4 =>
    have ql : s.heap.IsList l vs := ⟨_, a1, a2, _, a3⟩
    cases rb with
    | none => exact RcNeAt.list_none ql u0
    | bool y => exact RcNeAt.list_bool y ql u0
    | int y u => exact RcNeAt.list_int y u ql u0
    | str y u => exact RcNeAt.list_str y u ql u0
    | tuple b1 b2 b3 => exact RcNeAt.list_tuple ql ⟨_, b1, b2, _, b3⟩ u0
    | dict => exact nomatch ze
    | @list m _ ws _ ys _ b1 b2 b3 b4 =>
      have qm : s.heap.IsList m ws := ⟨_, b1, b2, _, b3⟩
      have c1 : vs.size = xs.length := by have := ReadsAll.length _ _ _ a4; simpa using this
      have c2 : ws.size = ys.length := by have := ReadsAll.length _ _ _ b4; simpa using this
      have he : ∀ j (h1 : j < vs.size) (h2 : j < ws.size), EqAt A.in1 s vs[j] ws[j] (pairEq xs ys j) := fun j j1 j2 => eqs_at xs ys A.in1 s vs.toList ws.toList _ _ a4 b4 zd ze (room_in hu) j (by simpa using j1) (by simpa using j2)
      change RcNeAt A s _ _ (!PyData.eqvAll xs ys)
      by_cases z : vs.size = ws.size
      · rw [← eqvAll_same_length (by omega : xs.length = ys.length), ← c1]
        exact RcNeAt.lists ql qm z u0 he
      · rw [eqvAll_other_length (by omega : xs.length ≠ ys.length)]
        exact RcNeAt.lists_lengths ql qm (by simpa using z) u0
  | @tuple l _ vs _ xs _ a1 a2 a3 a4 =>
    have ql : s.heap.IsTuple l vs := ⟨_, a1, a2, _, a3⟩
    cases rb with
    | none => exact RcNeAt.tuple_none ql u0
    | bool y => exact RcNeAt.tuple_bool y ql u0
    | int y u => exact RcNeAt.tuple_int y u ql u0
    | str y u => exact RcNeAt.tuple_str y u ql u0
    | list b1 b2 b3 => exact RcNeAt.tuple_list ql ⟨_, b1, b2, _, b3⟩ u0
    | dict => exact nomatch ze
    | @tuple m _ ws _ ys _ b1 b2 b3 b4 =>
      have qm : s.heap.IsTuple m ws := ⟨_, b1, b2, _, b3⟩
      have c1 : vs.size = xs.length := by have := ReadsAll.length _ _ _ a4; simpa using this
      have c2 : ws.size = ys.length := by have := ReadsAll.length _ _ _ b4; simpa using this
      have he : ∀ j (h1 : j < vs.size) (h2 : j < ws.size), EqAt A.in1 s vs[j] ws[j] (pairEq xs ys j) := fun j j1 j2 => eqs_at xs ys A.in1 s vs.toList ws.toList _ _ a4 b4 zd ze (room_in hu) j (by simpa using j1) (by simpa using j2)
      change RcNeAt A s _ _ (!PyData.eqvAll xs ys)
      rw [← eqvAll_eq xs ys, ← c1, ← c2]
      exact RcNeAt.tuples ql qm u0 he
end Pv


/-! operators over data -/
namespace Pv
open PySem PySem.Spec L2
open PyProof.Rows hiding St

/-! ### the reading side: Inv gives the library's Reads -/
section
variable {X : Cx} {pins : List (Addr × Obj)} {σ : St} {H : Hp} {s : Shared} {F : Addr → Prop}
theorem Rb.reads (I : Inv X pins σ H s) {d : PyData} {v : V} {u : Value} (h : Rb X.K F H d v) (r : RelV v u) : ∃ as, Reads s.heap u d as := Dp.reads I d v u h.dp r
end
mutual
theorem Rp.noDic {K : PySem.W.Frag} {F : Addr → Prop} {H : Hp} : ∀ (d : PyData) (v : V), Rp K F H d v → noDic d = true
  | .none, _, _ | .bool _, _, _ | .int _, _, _ | .str _, _, _ => rfl
  | .list ds, _, ⟨_, vs, _, _, _, r⟩ => Rps.noDics ds vs r
  | .tuple ds, _, ⟨_, vs, _, _, r⟩ => Rps.noDics ds vs r
  | .dict _, _, h => False.elim h
theorem Rps.noDics {K : PySem.W.Frag} {F : Addr → Prop} {H : Hp} : ∀ (ds : List PyData) (vs : List V), Rps K F H ds vs → noDics ds = true
  | [], _, _ => rfl
  | d :: ds, _, ⟨v, r, _, h1, h2⟩ => by rw [Pv.noDics, Rp.noDic d v h1, Rps.noDics ds r h2]; rfl
end
theorem Rb.noDic {K : PySem.W.Frag} {F : Addr → Prop} {H : Hp} {d : PyData} {v : V} (h : Rb K F H d v) : noDic d = true := by
  cases d with
  | list ds => obtain ⟨a, vs, _, _, r⟩ := h; exact Rps.noDics ds vs r
  | dict ds => exact False.elim h
  | tuple ds => exact Rp.noDic (F := F) (.tuple ds) v h
  | _ => rfl

/-! a larger F, of what was not there -/
section
variable {K : PySem.W.Frag} {F F' : Addr → Prop} {H : Hp}
theorem rd_there {a : Addr} {o : HO} (h : Rd H a o) : ∃ u, H a = some u := by
  rcases h with h | ⟨u, h⟩
  · exact ⟨_, h⟩
  · exact ⟨_, h⟩
theorem grow1 {a : Addr} {o : HO} (hF : ∀ a, F' a → F a ∨ H a = none) (nf : ¬ F a) (q : Rd H a o) : ¬ F' a := fun z => by
  rcases hF a z with z | z
  · exact nf z
  · obtain ⟨u, hu⟩ := rd_there q
    rw [z] at hu; cases hu
mutual
theorem Rp.grow (hF : ∀ a, F' a → F a ∨ H a = none) : ∀ (d : PyData) (v : V), Rp K F H d v → Rp K F' H d v
  | .none, _, h => h
  | .bool _, _, h => h
  | .int _, _, h => h
  | .str _, _, h => h
  | .list ds, _, ⟨a, vs, e, nf, q, r⟩ => ⟨a, vs, e, grow1 hF nf q, q, Rps.grow hF ds vs r⟩
  | .tuple ds, _, ⟨a, vs, e, q, r⟩ => ⟨a, vs, e, q, Rps.grow hF ds vs r⟩
  | .dict _, _, h => h
theorem Rps.grow (hF : ∀ a, F' a → F a ∨ H a = none) : ∀ (ds : List PyData) (vs : List V), Rps K F H ds vs → Rps K F' H ds vs
  | [], _, h => h
  | d :: ds, _, ⟨v, r, e, h1, h2⟩ => ⟨v, r, e, Rp.grow hF d v h1, Rps.grow hF ds r h2⟩
end
end
/-- the lists that an operation hands back are new -/
def Nw (K : PySem.W.Frag) (H : Hp) (F : Addr → Prop) (H' : Hp) : PyData → V → Prop
  | .list ds, v => ∃ p vs, v = .ref p ∧ H p = none ∧ H' p = some (.lst vs) ∧ Rps K (fun a => F a ∨ a = p) H' ds vs
  | d, v => Rp K F H' d v
def Trk (F : Addr → Prop) (H : Hp) : Prop := ∀ a, F a → Mut (H a)
theorem Trk.same {F : Addr → Prop} {H H' : Hp} (t : Trk F H) (s : Same H H') : Trk F H' := fun a h => by
  have m := t a h
  obtain ⟨o, e⟩ := mut_some m
  rw [s _ _ e, ← e]
  exact m
theorem Trk.new {F : Addr → Prop} {H : Hp} (t : Trk F H) {p : Addr} (h : H p = none) : ¬ F p := fun z => by
  have m := t p z
  rw [h] at m
  exact m
theorem Nw.rp {K : PySem.W.Frag} {H H' : Hp} {F : Addr → Prop} {d : PyData} {v : V} (t : Trk F H) (h : Nw K H F H' d v) : Rp K F H' d v := by
  cases d with
  | list ds => obtain ⟨p, vs, e, n, q, r⟩ := h; exact ⟨p, vs, e, t.new n, .inl q, r.less fun a z => .inl z⟩
  | _ => exact h
theorem Nw.of {K : PySem.W.Frag} {H H' : Hp} {F : Addr → Prop} {d : PyData} {v : V} (h : Rp K F H' d v) (hd : ∀ ds, d ≠ .list ds) : Nw K H F H' d v := by
  cases d with
  | list ds => exact absurd rfl (hd ds)
  | _ => exact h
theorem same_upd {H : Hp} {p : Addr} {o : HO} (n : H p = none) : Same H (upd H p o) := fun a u e => by rw [upd_ne (ne_of_none e n)]; exact e

theorem Nw.mk {K : PySem.W.Frag} {H : Hp} {F : Addr → Prop} {ds : List PyData} {vs : List V} {p : Addr} (n : H p = none) (r : Rps K F H ds vs) : Nw K H F (upd H p (.lst vs)) (.list ds) (.ref p) :=
  ⟨p, vs, rfl, n, upd_same, Rps.same (Rps.grow (fun a z => z.imp id fun z => by subst z; exact n) ds vs r) (same_upd n)⟩
/-- a rule by data: g is what is reckoned -/
def rD (K : PySem.W.Frag) (g : PyData → PyData → R PyData) : R2 := fun x y H Q => ∃ F d e r, Trk F H ∧ Rb K F H d x ∧ Rb K F H e y ∧ g d e = .ok r ∧ ∀ v H', Same H H' → Nw K H F H' r v → Q v H'
/-- .. of one datum -/
def rD1 (K : PySem.W.Frag) (g : PyData → R PyData) : V → Hp → VK → Prop := fun x H Q => ∃ F d r, Trk F H ∧ Rb K F H d x ∧ g d = .ok r ∧ ∀ v H', Same H H' → Nw K H F H' r v → Q v H'


def addD : PyData → PyData → R PyData
  | .int i, .int j => .ok (.int (i + j))
  | .str a, .str b => if a.length + b.length ≤ sizeLine then .ok (.str (a ++ b)) else .bad
  | .list a, .list b => if a.length + b.length ≤ sizeLine then .ok (.list (a ++ b)) else .bad
  | .tuple a, .tuple b => if a.length + b.length ≤ sizeLine then .ok (.tuple (a ++ b)) else .bad
  | _, _ => .bad
def subD : PyData → PyData → R PyData
  | .int i, .int j => .ok (.int (i - j))
  | _, _ => .bad
def mulD : PyData → PyData → R PyData
  | .int i, .int j => if (i.natAbs < 2 ^ 64 ∨ j.natAbs < 2 ^ 64) ∨ i.natAbs.log2 + j.natAbs.log2 < 1000000 then .ok (.int (i * j)) else .bad
  | .list xs, .int k => if -(2 ^ 63) ≤ k ∧ k < 2 ^ 63 ∧ xs.length * k.toNat ≤ sizeLine then .ok (.list (List.replicate k.toNat xs).flatten) else .bad
  | _, _ => .bad
def fdivD : PyData → PyData → R PyData
  | .int i, .int j => if 0 < j ∧ j.natAbs.log2 < 9000 then .ok (.int (i / j)) else .bad
  | _, _ => .bad
def modD : PyData → PyData → R PyData
  | .int i, .int j => if 0 < j then .ok (.int (i % j)) else .bad
  | _, _ => .bad
def powD : PyData → PyData → R PyData
  | .int i, .int j => if 0 ≤ j ∧ j ≤ 1000000 ∧ i.natAbs < 2 ^ 64 then .ok (.int (i ^ j.toNat)) else .bad
  | _, _ => .bad
theorem rd_ints {K : PySem.W.Frag} {F : Addr → Prop} {H : Hp} {i : Int} {x : V} (h : Rb K F H (.int i) x) : x = .int i := h
theorem rd_strs {K : PySem.W.Frag} {F : Addr → Prop} {H : Hp} {i : Str} {x : V} (h : Rb K F H (.str i) x) : x = .str i := h
section
variable {X : Cx}
/-- a list of the ledger or a locked one -/
theorem Inv.exactL {pins : List (Addr × Obj)} {σ : St} {H : Hp} {s : Shared} {a : Addr} {xs : List V} (I : Inv X pins σ H s) (h : Rd H a (.lst xs)) :
    xs.length ≤ sizeLine ∧ ∃ (its : List Value) (n : Nat), Vals xs its ∧ s.heap.get? a = some { cls := .type "list", data := .seq its.toArray n } := by
  obtain ⟨z, its, n, r, e⟩ := h.ok I.hok
  exact ⟨z, its, n, r, e⟩

theorem op_addL : OpR X (binaryOp .Add) (fun x y H Q => ∃ l b xs zs, x = .ref l ∧ y = .ref b ∧ Rd H l (.lst xs) ∧ Rd H b (.lst zs) ∧ xs.length + zs.length ≤ sizeLine ∧ ∀ p, H p = none → Q (.ref p) (upd H p (.lst (xs ++ zs)))) := by
  intro pins s σ H x y v u Q I rx ry h
  obtain ⟨l, b, xs, zs, rfl, rfl, h1, h2, hz, q⟩ := h
  cases rx; cases ry
  obtain ⟨_, its, n, r, e⟩ := Inv.exactL I h1
  obtain ⟨_, jts, m, t, g⟩ := Inv.exactL I h2
  have c1 := r.length
  have c2 := t.length
  refine PySem.P.add_list e g ?_ (by simp only [List.size_toArray]; omega)
  rw [List.append_toArray]
  exact ⟨.ref _, _, I.lnew (t' := s.toks) (r.append t) (by rw [List.length_append]; exact hz), rfl, q _ I.fresh⟩
theorem opd_add : OpR X (binaryOp .Add) (rD X.K addD) := by
  intro pins s σ H x y v u Q I rx ry h
  obtain ⟨F, d, e, r, tr, hd, he, hg, q⟩ := h
  cases d <;> cases e <;> first | (refine absurd hg ?_; intro z; cases z; done) | skip
  · cases hg
    exact op_add pins s σ H x y v u Q I rx ry ⟨_, _, rd_ints hd, rd_ints he, q _ _ (Same.refl H) rfl⟩
  · simp only [addD] at hg
    split at hg
    · cases hg
      rename_i hz
      exact op_add_str pins s σ H x y v u Q I rx ry ⟨_, _, rd_strs hd, rd_strs he, hz, q _ _ (Same.refl H) rfl⟩
    · cases hg
  · simp only [addD] at hg
    split at hg
    · cases hg
      rename_i hz
      obtain ⟨a, vs, rfl, q1, r1⟩ := hd
      obtain ⟨b, ws, rfl, q2, r2⟩ := he
      have c1 := r1.length
      have c2 := r2.length
      exact op_addL pins s σ H _ _ v u Q I rx ry ⟨a, b, vs, ws, rfl, rfl, q1, q2, by omega, fun p np => q _ _ (same_upd np) (Nw.mk np (r1.append r2))⟩
    · cases hg
  · simp only [addD] at hg
    split at hg
    · cases hg
      rename_i hz
      obtain ⟨a, vs, rfl, q1, r1⟩ := hd
      obtain ⟨b, ws, rfl, q2, r2⟩ := he
      have c1 := r1.length
      have c2 := r2.length
      refine op_catA pins s σ H _ _ v u Q I rx ry ⟨a, b, vs, ws, rfl, rfl, q1, q2, by omega, fun z => ?_, fun z1 z2 => ?_, fun z1 z2 p np => ?_⟩
      · subst z
        have e0 := List.eq_nil_of_length_eq_zero c1
        subst e0
        exact q _ _ (Same.refl H) ⟨b, ws, rfl, q2, r2⟩
      · subst z2
        have e0 := List.eq_nil_of_length_eq_zero c2
        subst e0
        exact q _ _ (Same.refl H) ⟨a, vs, rfl, q1, by rw [List.append_nil]; exact r1⟩
      · exact q _ _ (same_upd np) ⟨p, vs ++ ws, rfl, SqT.of upd_same, (r1.same (same_upd np)).append (r2.same (same_upd np))⟩
    · cases hg
theorem opd_sub : OpR X (binaryOp .Sub) (rD X.K subD) := by
  intro pins s σ H x y v u Q I rx ry h
  obtain ⟨F, d, e, r, tr, hd, he, hg, q⟩ := h
  cases d <;> cases e <;> first | (refine absurd hg ?_; intro z; cases z; done) | skip
  cases hg
  exact op_sub pins s σ H x y v u Q I rx ry ⟨_, _, rd_ints hd, rd_ints he, q _ _ (Same.refl H) rfl⟩
theorem opd_fdiv : OpR X (binaryOp .FloorDiv) (rD X.K fdivD) := by
  intro pins s σ H x y v u Q I rx ry h
  obtain ⟨F, d, e, r, tr, hd, he, hg, q⟩ := h
  cases d <;> cases e <;> first | (refine absurd hg ?_; intro z; cases z; done) | skip
  simp only [fdivD] at hg
  split at hg
  · cases hg
    rename_i hz
    exact op_fdivW pins s σ H x y v u Q I rx ry ⟨_, _, rd_ints hd, rd_ints he, hz, q _ _ (Same.refl H) rfl⟩
  · cases hg
theorem opd_mod : OpR X (binaryOp .Mod) (rD X.K modD) := by
  intro pins s σ H x y v u Q I rx ry h
  obtain ⟨F, d, e, r, tr, hd, he, hg, q⟩ := h
  cases d <;> cases e <;> first | (refine absurd hg ?_; intro z; cases z; done) | skip
  simp only [modD] at hg
  split at hg
  · cases hg
    rename_i hz
    exact op_mod pins s σ H x y v u Q I rx ry ⟨_, _, rd_ints hd, rd_ints he, hz, q _ _ (Same.refl H) rfl⟩
  · cases hg
theorem opd_pow : OpR X (binaryOp .Pow) (rD X.K powD) := by
  intro pins s σ H x y v u Q I rx ry h
  obtain ⟨F, d, e, r, tr, hd, he, hg, q⟩ := h
  cases d <;> cases e <;> first | (refine absurd hg ?_; intro z; cases z; done) | skip
  simp only [powD] at hg
  split at hg
  · cases hg
    rename_i hz
    exact op_pow pins s σ H x y v u Q I rx ry ⟨_, _, rd_ints hd, rd_ints he, hz, q _ _ (Same.refl H) rfl⟩
  · cases hg
theorem op_repL : OpR X (binaryOp .Mult) (fun x y H Q => ∃ l k xs, x = .ref l ∧ y = .int k ∧ H l = some (.lst xs) ∧ -(2 ^ 63) ≤ k ∧ k < 2 ^ 63 ∧ xs.length * k.toNat ≤ sizeLine ∧ ∀ p, H p = none → Q (.ref p) (upd H p (.lst (List.replicate k.toNat xs).flatten))) := op_rep
/-- the left is a list of the ledger -/
def rMul (K : PySem.W.Frag) : R2 := fun x y H Q => (∃ l xs, x = .ref l ∧ H l = some (.lst xs) ∧ rD K mulD x y H Q) ∨ (∃ i, x = .int i ∧ rD K mulD x y H Q)
theorem opd_mul : OpR X (binaryOp .Mult) (rMul X.K) := by
  intro pins s σ H x y v u Q I rx ry h
  rcases h with ⟨l, xs, rfl, hl, F, d, e, r, tr, hd, he, hg, q⟩ | ⟨i, rfl, F, d, e, r, tr, hd, he, hg, q⟩
  · cases d <;> cases e <;> first | (refine absurd hg ?_; intro z; cases z; done) | skip
    · cases rd_ints hd
    · simp only [mulD] at hg
      split at hg
      · cases hg
        rename_i hz
        obtain ⟨a, vs, ea, q1, r1⟩ := hd
        cases ea
        have e1 : vs = xs := by
          rcases q1 with q1 | ⟨o, q1⟩
          · rw [hl] at q1; cases q1; rfl
          · rw [hl] at q1; cases q1
        subst e1
        cases rd_ints he
        have c1 := r1.length
        exact op_repL pins s σ H _ _ v u Q I rx ry ⟨l, _, vs, rfl, rfl, hl, hz.1, hz.2.1, by rw [← c1]; exact hz.2.2, fun p np => q _ _ (same_upd np) (Nw.mk np (r1.rep _))⟩
      · cases hg
  · cases d <;> cases e <;> first | (refine absurd hg ?_; intro z; cases z; done) | skip
    · simp only [mulD] at hg
      split at hg
      · cases hg
        rename_i hz
        cases rd_ints hd
        cases rd_ints he
        rcases hz with hz | hz
        · refine op_mul pins s σ H _ _ v u Q I rx ry ⟨_, _, rfl, rfl, ?_, q _ _ (Same.refl H) rfl⟩
          rcases hz with hz | hz
          · exact .inl (by omega)
          · exact .inr (by omega)
        · exact op_mulW pins s σ H _ _ v u Q I rx ry ⟨_, _, rfl, rfl, hz, q _ _ (Same.refl H) rfl⟩
      · cases hg
    · obtain ⟨a, vs, ea, q1, r1⟩ := hd
      cases ea
end
end Pv


/-! comparisons, calls of built-ins over data -/
namespace Pv
open PySem PySem.Spec L2
open PyProof.Rows hiding St
open PySem.W (dataLt alike)

def shal (d e : PyData) : Bool := decide (min d.depth e.depth ≤ 60)
def eqD (d e : PyData) : R PyData := if shal d e = true then .ok (.bool (PyData.eqv d e)) else .bad
def neD (d e : PyData) : R PyData := if shal d e = true then .ok (.bool (!PyData.eqv d e)) else .bad
def cmpOk (d e : PyData) : Bool := shal d e && (alike d e && (match d with | .none => false | _ => true))
def ltD (d e : PyData) : R PyData := if cmpOk d e = true then .ok (.bool (dataLt d e)) else .bad
def gtD (d e : PyData) : R PyData := if cmpOk d e = true then .ok (.bool (dataLt e d)) else .bad
def leD (d e : PyData) : R PyData := if cmpOk d e = true then .ok (.bool (!dataLt e d)) else .bad
def geD (d e : PyData) : R PyData := if cmpOk d e = true then .ok (.bool (!dataLt d e)) else .bad
def memD (d : PyData) (ds : List PyData) : Bool := ds.any fun z => PyData.eqv z d
def inB (d e : PyData) : R Bool :=
  match e with
  | .list ds | .tuple ds => if d.depth ≤ 60 then .ok (memD d ds) else .bad
  | .str z => (match d with
    | .str c => (match c.cps.toList with
      | [k] => .ok (decide (k ∈ z.cps.toList))
      | _ => .bad)
    | _ => .bad)
  | _ => .bad
def inD (d e : PyData) : R PyData := (inB d e).bind fun b => .ok (.bool b)
def notInD (d e : PyData) : R PyData := (inB d e).bind fun b => .ok (.bool (!b))
def isNoneD (d : PyData) : Bool := match d with | .none => true | _ => false
def isD : PyData → PyData → R PyData
  | d, .none => .ok (.bool (isNoneD d))
  | .bool a, .bool b => .ok (.bool (decide (a = b)))
  | _, _ => .bad
def isntD : PyData → PyData → R PyData
  | d, .none => .ok (.bool (!isNoneD d))
  | .bool a, .bool b => .ok (.bool (!decide (a = b)))
  | _, _ => .bad
section
variable {X : Cx}
theorem room60 {u a b : Nat} (hu : u + 64 < cLine) (h : min a b ≤ 60) : u + min a b < cLine := by omega
theorem opd_eq (hu : X.A.units + 64 < cLine) : OpR X (compareOp .Eq) (rD X.K eqD) := by
  intro pins s σ H x y v u Q I rx ry h
  obtain ⟨F, d, e, r, tr, hd, he, hg, q⟩ := h
  unfold eqD at hg
  split at hg
  · rename_i hs
    cases hg
    obtain ⟨as, r1⟩ := hd.reads I rx
    obtain ⟨bs, r2⟩ := he.reads I ry
    exact rc_eq r1 r2 hd.noDic he.noDic (room60 hu (of_decide_eq_true hs)) X.prog X.w X.xe _ ⟨.bl _, H, I, rfl, q _ _ (Same.refl H) rfl⟩
  · cases hg
theorem opd_ne (hu : X.A.units + 64 < cLine) : OpR X (compareOp .NotEq) (rD X.K neD) := by
  intro pins s σ H x y v u Q I rx ry h
  obtain ⟨F, d, e, r, tr, hd, he, hg, q⟩ := h
  unfold neD at hg
  split at hg
  · rename_i hs
    cases hg
    obtain ⟨as, r1⟩ := hd.reads I rx
    obtain ⟨bs, r2⟩ := he.reads I ry
    exact rc_ne r1 r2 hd.noDic he.noDic (room60 hu (of_decide_eq_true hs)) X.prog X.w X.xe _ ⟨.bl _, H, I, rfl, q _ _ (Same.refl H) rfl⟩
  · cases hg
theorem cmpOk_is {d e : PyData} (h : cmpOk d e = true) : min d.depth e.depth ≤ 60 ∧ alike d e = true ∧ d ≠ .none := by
  unfold cmpOk at h
  rw [Bool.and_eq_true, Bool.and_eq_true] at h
  refine ⟨of_decide_eq_true h.1, h.2.1, fun z => ?_⟩
  subst z
  exact nomatch h.2.2
theorem opd_lt (hu : X.A.units + 64 < cLine) : OpR X (compareOp .Lt) (rD X.K ltD) := by
  intro pins s σ H x y v u Q I rx ry h
  obtain ⟨F, d, e, r, tr, hd, he, hg, q⟩ := h
  unfold ltD at hg
  split at hg
  · rename_i hs
    cases hg
    obtain ⟨h1, h2, h3⟩ := cmpOk_is hs
    obtain ⟨as, r1⟩ := hd.reads I rx
    obtain ⟨bs, r2⟩ := he.reads I ry
    exact PySem.W.rcLt_alike _ _ X.A s _ _ _ _ r1 r2 h2 h3 (room60 hu h1) X.prog X.w X.xe _ ⟨.bl _, H, I, rfl, q _ _ (Same.refl H) rfl⟩
  · cases hg
theorem opd_gt (hu : X.A.units + 64 < cLine) : OpR X (compareOp .Gt) (rD X.K gtD) := by
  intro pins s σ H x y v u Q I rx ry h
  obtain ⟨F, d, e, r, tr, hd, he, hg, q⟩ := h
  unfold gtD at hg
  split at hg
  · rename_i hs
    cases hg
    obtain ⟨h1, h2, h3⟩ := cmpOk_is hs
    obtain ⟨as, r1⟩ := hd.reads I rx
    obtain ⟨bs, r2⟩ := he.reads I ry
    exact PySem.W.rcGt_alike _ _ X.A s _ _ _ _ r1 r2 h2 h3 (room60 hu h1) X.prog X.w X.xe _ ⟨.bl _, H, I, rfl, q _ _ (Same.refl H) rfl⟩
  · cases hg
theorem opd_le (hu : X.A.units + 64 < cLine) : OpR X (compareOp .LtE) (rD X.K leD) := by
  intro pins s σ H x y v u Q I rx ry h
  obtain ⟨F, d, e, r, tr, hd, he, hg, q⟩ := h
  unfold leD at hg
  split at hg
  · rename_i hs
    cases hg
    obtain ⟨h1, h2, h3⟩ := cmpOk_is hs
    obtain ⟨as, r1⟩ := hd.reads I rx
    obtain ⟨bs, r2⟩ := he.reads I ry
    exact PySem.W.rcLe_alike _ _ X.A s _ _ _ _ r1 r2 h2 h3 (room60 hu h1) X.prog X.w X.xe _ ⟨.bl _, H, I, rfl, q _ _ (Same.refl H) rfl⟩
  · cases hg
theorem opd_ge (hu : X.A.units + 64 < cLine) : OpR X (compareOp .GtE) (rD X.K geD) := by
  intro pins s σ H x y v u Q I rx ry h
  obtain ⟨F, d, e, r, tr, hd, he, hg, q⟩ := h
  unfold geD at hg
  split at hg
  · rename_i hs
    cases hg
    obtain ⟨h1, h2, h3⟩ := cmpOk_is hs
    obtain ⟨as, r1⟩ := hd.reads I rx
    obtain ⟨bs, r2⟩ := he.reads I ry
    exact PySem.W.rcGe_alike _ _ X.A s _ _ _ _ r1 r2 h2 h3 (room60 hu h1) X.prog X.w X.xe _ ⟨.bl _, H, I, rfl, q _ _ (Same.refl H) rfl⟩
  · cases hg
/-! ### in -/
open Classical in
/-- what an item answers -/
noncomputable def ansU (h : Heap) (d : PyData) (w : Value) : Bool := decide (∃ e as, Reads h w e as ∧ noDic e = true ∧ PyData.eqv e d = true)
open Classical in
theorem ansU_of {h : Heap} {d e : PyData} {w : Value} {as : List Addr} (r : Reads h w e as) (z : noDic e = true) : ansU h d w = PyData.eqv e d := by
  unfold ansU
  cases q : PyData.eqv e d with
  | true => exact decide_eq_true ⟨e, as, r, z, q⟩
  | false =>
    refine decide_eq_false ?_
    rintro ⟨e', bs, r', z', q'⟩
    rw [rd_one e e' w as bs z r r'] at q
    rw [q] at q'; cases q'
theorem ansU_any {h : Heap} {d : PyData} : ∀ {ds : List PyData} {us : List Value} {as : List Addr}, ReadsAll h us ds as → noDics ds = true → us.any (ansU h d) = ds.any fun z => PyData.eqv z d
  | [], _, _, r, _ => by cases r; rfl
  | e :: ds, _, _, r, z => by
    cases r with | cons r1 r2 => ?_
    rw [List.any_cons, List.any_cons, ansU_of r1 (noDics_cons z).1, ansU_any r2 (noDics_cons z).2]
theorem ansU_count {h : Heap} {d : PyData} : ∀ {ds : List PyData} {us : List Value} {as : List Addr}, ReadsAll h us ds as → noDics ds = true → us.countP (ansU h d) = ds.countP fun z => PyData.eqv z d
  | [], _, _, r, _ => by cases r; rfl
  | e :: ds, _, _, r, z => by
    cases r with | cons r1 r2 => ?_
    rw [List.countP_cons, List.countP_cons, ansU_of r1 (noDics_cons z).1, ansU_count r2 (noDics_cons z).2]
theorem ansU_eqAt {A : Around} {s : Shared} {d : PyData} {v : Value} {bs : List Addr} (rv : Reads s.heap v d bs) (zd : noDic d = true) (hd : d.depth ≤ 60) (hu : A.units + 64 < cLine) :
    ∀ {ds : List PyData} {us : List Value} {as : List Addr}, ReadsAll s.heap us ds as → noDics ds = true → ∀ u ∈ us, SeqAt.EqAt A s u v (ansU s.heap d u)
  | [], _, _, r, _, u, hm => by cases r; cases hm
  | e :: ds, _, _, r, z, u, hm => by
    cases r with | cons r1 r2 => ?_
    rcases List.mem_cons.mp hm with rfl | hm
    · rw [ansU_of r1 (noDics_cons z).1]
      exact eq_at e d A s _ _ _ _ r1 rv (noDics_cons z).1 zd (room60 hu (Nat.le_trans (Nat.min_le_right _ _) hd))
    · exact ansU_eqAt rv zd hd hu r2 (noDics_cons z).2 u hm
/-- a list or a tuple at hand -/
theorem seqL {pins : List (Addr × Obj)} {σ : St} {H : Hp} {s : Shared} {F : Addr → Prop} {ds : List PyData} {x : V} (I : L2.Inv X pins σ H s) (h : Rb X.K F H (.list ds) x) :
    ∃ a its as, x = .ref a ∧ PlainL s.heap a its.toArray ∧ ReadsAll s.heap its ds as ∧ noDics ds = true ∧ its.length = ds.length ∧ ds.length ≤ sizeLine := by
  obtain ⟨a, vs, rfl, q, r⟩ := h
  obtain ⟨its, rv, pl, hz⟩ := I.list (.inl q)
  obtain ⟨as, ra⟩ := Dp.readsAll I ds vs its (Rps.dp ds vs r) rv
  have c1 := r.length
  have c2 := rv.length
  exact ⟨a, its, as, rfl, pl, ra, Rps.noDics ds vs r, by omega, by omega⟩
theorem seqT {pins : List (Addr × Obj)} {σ : St} {H : Hp} {s : Shared} {F : Addr → Prop} {ds : List PyData} {x : V} (I : L2.Inv X pins σ H s) (h : Rb X.K F H (.tuple ds) x) :
    ∃ a its as, x = .ref a ∧ IsTup s.heap a its.toArray ∧ ReadsAll s.heap its ds as ∧ noDics ds = true ∧ its.length = ds.length ∧ ds.length ≤ sizeLine := by
  obtain ⟨a, vs, rfl, q, r⟩ := h
  obtain ⟨its, rv, pl, hz⟩ := I.tuple q
  obtain ⟨as, ra⟩ := Dp.readsAll I ds vs its (Rps.dp ds vs r) rv
  have c1 := r.length
  have c2 := rv.length
  exact ⟨a, its, as, rfl, pl, ra, Rps.noDics ds vs r, by omega, by omega⟩
theorem in1_64 {A : Around} (hu : A.units + 128 < cLine) : A.in1.units + 64 < cLine := by
  have : A.in1.units = A.units + 1 := rfl
  omega
theorem opd_in (hu : X.A.units + 128 < cLine) : OpR X (compareOp .In) (rD X.K inD) := by
  intro pins s σ H x y v u Q I rx ry h
  obtain ⟨F, d, e, r, tr, hd, he, hg, q⟩ := h
  obtain ⟨bs, r1⟩ := hd.reads I rx
  cases e with
  | list ds =>
    simp only [inD, inB] at hg
    split at hg
    · cases hg
      rename_i hz
      obtain ⟨a, its, as, rfl, pl, ra, zd, _⟩ := seqL I he
      cases ry
      refine SeqAt.in_listAt (ansU s.heap d) pl.isList (fun w hw => ansU_eqAt r1 hd.noDic hz (in1_64 hu) ra zd w (by simpa using hw)) ⟨.bl _, H, I, rfl, ?_⟩
      rw [List.any_toArray, ansU_any ra zd]
      exact q _ _ (Same.refl H) rfl
    · cases hg
  | tuple ds =>
    simp only [inD, inB] at hg
    split at hg
    · cases hg
      rename_i hz
      obtain ⟨a, its, as, rfl, pl, ra, zd, _⟩ := seqT I he
      cases ry
      refine SeqAt.in_tupleAt (ansU s.heap d) pl (fun w hw => ansU_eqAt r1 hd.noDic hz (in1_64 hu) ra zd w (by simpa using hw)) ⟨.bl _, H, I, rfl, ?_⟩
      rw [List.any_toArray, ansU_any ra zd]
      exact q _ _ (Same.refl H) rfl
    · cases hg
  | str z =>
    cases d with
    | str c =>
      simp only [inD, inB] at hg
      split at hg
      · rename_i k hk
        cases hg
        have ec : c = ⟨#[k]⟩ := by
          cases c with
          | mk a => simp only at hk; rw [← Array.toArray_toList (xs := a), hk]
        subst ec
        exact op_in_sign pins s σ H x y v u Q I rx ry ⟨k, z, rd_strs hd, rd_strs he, q _ _ (Same.refl H) rfl⟩
      · cases hg
    | _ => cases hg
  | none => cases hg
  | bool _ => cases hg
  | int _ => cases hg
  | dict _ => cases hg
theorem opd_notIn (hu : X.A.units + 128 < cLine) : OpR X (compareOp .NotIn) (rD X.K notInD) := by
  intro pins s σ H x y v u Q I rx ry h
  obtain ⟨F, d, e, r, tr, hd, he, hg, q⟩ := h
  obtain ⟨bs, r1⟩ := hd.reads I rx
  cases e with
  | list ds =>
    simp only [notInD, inB] at hg
    split at hg
    · cases hg
      rename_i hz
      obtain ⟨a, its, as, rfl, pl, ra, zd, _⟩ := seqL I he
      cases ry
      refine SeqAt.notIn_listAt (ansU s.heap d) pl.isList (fun w hw => ansU_eqAt r1 hd.noDic hz (in1_64 hu) ra zd w (by simpa using hw)) ⟨.bl _, H, I, rfl, ?_⟩
      rw [List.any_toArray, ansU_any ra zd]
      exact q _ _ (Same.refl H) rfl
    · cases hg
  | tuple ds =>
    simp only [notInD, inB] at hg
    split at hg
    · cases hg
      rename_i hz
      obtain ⟨a, its, as, rfl, pl, ra, zd, _⟩ := seqT I he
      cases ry
      refine SeqAt.notIn_tupleAt (ansU s.heap d) pl (fun w hw => ansU_eqAt r1 hd.noDic hz (in1_64 hu) ra zd w (by simpa using hw)) ⟨.bl _, H, I, rfl, ?_⟩
      rw [List.any_toArray, ansU_any ra zd]
      exact q _ _ (Same.refl H) rfl
    · cases hg
  | str z =>
    cases d with
    | str c =>
      simp only [notInD, inB] at hg
      split at hg
      · rename_i k hk
        cases hg
        have ec : c = ⟨#[k]⟩ := by
          cases c with
          | mk a => simp only at hk; rw [← Array.toArray_toList (xs := a), hk]
        subst ec
        exact op_notIn_sign pins s σ H x y v u Q I rx ry ⟨k, z, rd_strs hd, rd_strs he, q _ _ (Same.refl H) rfl⟩
      · cases hg
    | _ => cases hg
  | none => cases hg
  | bool _ => cases hg
  | int _ => cases hg
  | dict _ => cases hg
/-! ### is -/
theorem isNone_rp {K : PySem.W.Frag} {F : Addr → Prop} {H : Hp} {d : PyData} {x : V} (h : Rb K F H d x) : decide (x = .non) = isNoneD d := by
  cases d with
  | none => cases (show x = .non from h); rfl
  | bool b => cases (show x = .bl b from h); rfl
  | int b => cases (show x = .int b from h); rfl
  | str b => cases (show x = .str b from h); rfl
  | list ds => obtain ⟨a, vs, rfl, _⟩ := h; rfl
  | tuple ds => obtain ⟨a, vs, rfl, _⟩ := h; rfl
  | dict _ => exact False.elim h
theorem opd_is : OpR X (compareOp .Is) (rD X.K isD) := by
  intro pins s σ H x y v u Q I rx ry h
  obtain ⟨F, d, e, r, tr, hd, he, hg, q⟩ := h
  cases e with
  | none =>
    cases (show R.ok (.bool (isNoneD d)) = R.ok r by cases d <;> exact hg)
    cases (show y = .non from he)
    exact op_isN pins s σ H x _ v u Q I rx ry ⟨rfl, q _ _ (Same.refl H) (by rw [isNone_rp hd]; rfl)⟩
  | bool b =>
    cases d with
    | bool a =>
      cases hg
      cases (show y = .bl b from he)
      cases (show x = .bl a from hd)
      exact op_isBl pins s σ H _ _ v u Q I rx ry ⟨a, b, rfl, rfl, q _ _ (Same.refl H) rfl⟩
    | _ => cases hg
  | _ => cases d <;> cases hg
theorem opd_isnt : OpR X (compareOp .IsNot) (rD X.K isntD) := by
  intro pins s σ H x y v u Q I rx ry h
  obtain ⟨F, d, e, r, tr, hd, he, hg, q⟩ := h
  cases e with
  | none =>
    cases (show R.ok (.bool (!isNoneD d)) = R.ok r by cases d <;> exact hg)
    cases (show y = .non from he)
    exact op_notN pins s σ H x _ v u Q I rx ry ⟨rfl, q _ _ (Same.refl H) (by rw [isNone_rp hd]; rfl)⟩
  | bool b =>
    cases d with
    | bool a =>
      cases hg
      cases (show y = .bl b from he)
      cases (show x = .bl a from hd)
      exact op_notBl pins s σ H _ _ v u Q I rx ry ⟨a, b, rfl, rfl, q _ _ (Same.refl H) rfl⟩
    | _ => cases hg
  | _ => cases d <;> cases hg
end
end Pv


/-! calls of built-ins, items, slices -/
namespace Pv
open PySem PySem.Spec L2
open PyProof.Rows hiding St
open PySem.W (dataLt alike)

/-- a rule of a call of one argument, by data -/
def rC1 (K : PySem.W.Frag) (g : PyData → R PyData) : List V → Hp → VK → Prop := fun xs H Q => ∃ x, xs = [x] ∧ rD1 K g x H Q
def rC2 (K : PySem.W.Frag) (g : PyData → PyData → R PyData) : List V → Hp → VK → Prop := fun xs H Q => ∃ x y, xs = [x, y] ∧ rD K g x y H Q

def lenD : PyData → R PyData
  | .list ds | .tuple ds => .ok (.int ds.length)
  | .str z => if z.length ≤ sizeLine then .ok (.int z.length) else .bad
  | _ => .bad
def listD : PyData → R PyData
  | .list ds | .tuple ds => .ok (.list ds)
  | _ => .bad
def tupleD : PyData → R PyData
  | .list ds | .tuple ds => .ok (.tuple ds)
  | _ => .bad
def intD : PyData → R PyData
  | .int i => .ok (.int i)
  | .bool b => .ok (.int (if b then 1 else 0))
  | _ => .bad
def negD : PyData → R PyData
  | .int i => .ok (.int (-i))
  | _ => .bad
def absD : PyData → R PyData
  | .int i => .ok (.int (if i < 0 then -i else i))
  | _ => .bad
def max2D : PyData → PyData → R PyData
  | .int i, .int j => .ok (.int (if j > i then j else i))
  | _, _ => .bad
def min2D : PyData → PyData → R PyData
  | .int i, .int j => .ok (.int (if j < i then j else i))
  | _, _ => .bad
/-- a list of ints alone -/
def intsOf : List PyData → Option (List Int)
  | [] => some []
  | .int i :: r => (intsOf r).map (i :: ·)
  | _ :: _ => none
def sumD : PyData → R PyData
  | .list ds => (match intsOf ds with
    | some ns => .ok (.int ns.sum)
    | none => .bad)
  | _ => .bad
def maxOf : List Int → Option Int
  | [] => none
  | x :: xs => some (xs.foldl max x)
def minOf : List Int → Option Int
  | [] => none
  | x :: xs => some (xs.foldl min x)
def maxLD : PyData → R PyData
  | .list ds => (match (intsOf ds).bind maxOf with
    | some m => .ok (.int m)
    | none => .bad)
  | _ => .bad
def minLD : PyData → R PyData
  | .list ds => (match (intsOf ds).bind minOf with
    | some m => .ok (.int m)
    | none => .bad)
  | _ => .bad
def alikeB (ds : List PyData) : Bool := ds.all fun d => ds.all fun e => alike d e
def sortB (ds : List PyData) : Bool := (ds.all fun d => match d with | .tuple (_ :: _) => true | _ => false) || ds.all fun d => match d with | .none => false | .tuple _ => false | _ => true
def sortedL (ds : List PyData) : List PyData := ds.mergeSort (PySem.W.dataLe false fun d => d)
def sortD : PyData → R PyData
  | .list ds => if alikeB ds = true ∧ sortB ds = true ∧ ds.all (fun d => decide (d.depth ≤ 60)) = true then .ok (.list (sortedL ds)) else .bad
  | _ => .bad
def ixD : PyData → PyData → R PyData
  | .list ds, .int i | .tuple ds, .int i => (match atI ds i with
    | some d => .ok d
    | none => .bad)
  | .str z, .int i => if z.length ≤ sizeLine then (match atI z.cps.toList i with
    | some c => .ok (.str ⟨#[c]⟩)
    | none => .bad) else .bad
  | _, _ => .bad
def cutD (ds : List PyData) (lo hi : Option Int) : List PyData := (ds.drop (HT.sIx ds.length 0 lo)).take (HT.sIx ds.length ds.length hi - HT.sIx ds.length 0 lo)
def slD (d : PyData) (lo hi : Option Int) : R PyData :=
  match d with
  | .list ds => .ok (.list (cutD ds lo hi))
  | .tuple ds => .ok (.tuple (cutD ds lo hi))
  | _ => .bad
section
variable {X : Cx}
theorem intsOf_rps {K : PySem.W.Frag} {F : Addr → Prop} {H : Hp} : ∀ {ds : List PyData} {ns : List Int} {vs : List V}, intsOf ds = some ns → Rps K F H ds vs → vs = ns.map V.int
  | [], _, _, e, h => by cases e; exact h
  | d :: ds, ns, vs, e, ⟨v, r, ev, h1, h2⟩ => by
    cases d with
    | int i =>
      simp only [intsOf] at e
      cases q : intsOf ds with
      | none => rw [q] at e; cases e
      | some ms =>
        rw [q] at e
        cases e
        subst ev
        cases (show v = .int i from h1)
        rw [intsOf_rps q h2]; rfl
    | _ => cases e
theorem opd_len : CallR X (.builtin "len") (rC1 X.K lenD) := by
  intro pins s σ H xs us Q I rs h
  obtain ⟨x, rfl, F, d, r, tr, hd, hg, q⟩ := h
  refine call_len pins s σ H _ us Q I rs ?_
  cases d with
  | list ds =>
    cases hg
    obtain ⟨a, vs, rfl, q1, r1⟩ := hd
    exact ⟨_, _, rfl, .inl ⟨vs, .inl q1, rfl⟩, by rw [← r1.length]; exact q _ _ (Same.refl H) rfl⟩
  | tuple ds =>
    cases hg
    obtain ⟨a, vs, rfl, q1, r1⟩ := hd
    exact ⟨_, _, rfl, .inr ⟨vs, q1, rfl⟩, by rw [← r1.length]; exact q _ _ (Same.refl H) rfl⟩
  | str z =>
    simp only [lenD] at hg
    split at hg
    · cases hg
      cases rd_strs hd
      rename_i hz
      exact ⟨_, _, rfl, ⟨hz, rfl⟩, q _ _ (Same.refl H) rfl⟩
    · cases hg
  | _ => cases hg
theorem opd_list : CallR X (.type "list") (rC1 X.K listD) := by
  intro pins s σ H xs us Q I rs h
  obtain ⟨x, rfl, F, d, r, tr, hd, hg, q⟩ := h
  refine call_list_of pins s σ H _ us Q I rs ?_
  cases d with
  | list ds =>
    cases hg
    obtain ⟨a, vs, rfl, q1, r1⟩ := hd
    exact ⟨_, _, rfl, .inl (.inl q1), fun l nl => q _ _ (same_upd nl) (Nw.mk nl r1)⟩
  | tuple ds =>
    cases hg
    obtain ⟨a, vs, rfl, q1, r1⟩ := hd
    exact ⟨_, _, rfl, .inr q1, fun l nl => q _ _ (same_upd nl) (Nw.mk nl r1)⟩
  | _ => cases hg
theorem opd_tuple : CallR X (.type "tuple") (rC1 X.K tupleD) := by
  intro pins s σ H xs us Q I rs h
  obtain ⟨x, rfl, F, d, r, tr, hd, hg, q⟩ := h
  refine call_tuple_of pins s σ H _ us Q I rs ?_
  cases d with
  | list ds =>
    cases hg
    obtain ⟨a, vs, rfl, q1, r1⟩ := hd
    exact ⟨_, _, rfl, .inl ⟨.inl q1, fun l nl => q _ _ (same_upd nl) ⟨l, vs, rfl, SqT.of upd_same, r1.same (same_upd nl)⟩⟩⟩
  | tuple ds =>
    cases hg
    obtain ⟨a, vs, rfl, q1, r1⟩ := hd
    exact ⟨_, _, rfl, .inr ⟨q1, q _ _ (Same.refl H) ⟨a, vs, rfl, q1, r1⟩⟩⟩
  | _ => cases hg
theorem opd_int : CallR X (.type "int") (rC1 X.K intD) := by
  intro pins s σ H xs us Q I rs h
  obtain ⟨x, rfl, F, d, r, tr, hd, hg, q⟩ := h
  refine call_int1 pins s σ H _ us Q I rs ?_
  cases d with
  | int i => cases hg; cases rd_ints hd; exact .inl ⟨i, rfl, q _ _ (Same.refl H) rfl⟩
  | bool b => cases hg; cases (show x = .bl b from hd); exact .inr ⟨b, rfl, q _ _ (Same.refl H) rfl⟩
  | _ => cases hg
theorem opd_abs : CallR X (.builtin "abs") (rC1 X.K absD) := by
  intro pins s σ H xs us Q I rs h
  obtain ⟨x, rfl, F, d, r, tr, hd, hg, q⟩ := h
  refine call_abs pins s σ H _ us Q I rs ?_
  cases d with
  | int i => cases hg; cases rd_ints hd; exact ⟨i, rfl, q _ _ (Same.refl H) rfl⟩
  | _ => cases hg
theorem opd_neg : UnR X (unaryOp .USub) (rD1 X.K negD) := by
  intro pins s σ H x v Q I rx h
  obtain ⟨F, d, r, tr, hd, hg, q⟩ := h
  cases d with
  | int i => cases hg; cases rd_ints hd; exact un_neg pins s σ H _ v Q I rx ⟨i, rfl, q _ _ (Same.refl H) rfl⟩
  | _ => cases hg
theorem opd_max2 (hc : X.calm = true) : CallR X (.builtin "max") (rC2 X.K max2D) := by
  intro pins s σ H xs us Q I rs h
  obtain ⟨x, y, rfl, F, d, e, r, tr, hd, he, hg, q⟩ := h
  cases d <;> cases e <;> first | (refine absurd hg ?_; intro z; cases z; done) | skip
  cases hg; cases rd_ints hd; cases rd_ints he
  exact call_max2 hc pins s σ H _ us Q I rs ⟨_, _, rfl, q _ _ (Same.refl H) rfl⟩
theorem opd_min2 (hc : X.calm = true) : CallR X (.builtin "min") (rC2 X.K min2D) := by
  intro pins s σ H xs us Q I rs h
  obtain ⟨x, y, rfl, F, d, e, r, tr, hd, he, hg, q⟩ := h
  cases d <;> cases e <;> first | (refine absurd hg ?_; intro z; cases z; done) | skip
  cases hg; cases rd_ints hd; cases rd_ints he
  exact call_min2 hc pins s σ H _ us Q I rs ⟨_, _, rfl, q _ _ (Same.refl H) rfl⟩
theorem opd_sum (hc : X.calm = true) : CallR X (.builtin "sum") (rC1 X.K sumD) := by
  intro pins s σ H xs us Q I rs h
  obtain ⟨x, rfl, F, d, r, tr, hd, hg, q⟩ := h
  cases d with
  | list ds =>
    simp only [sumD] at hg
    split at hg
    · rename_i ns hn
      cases hg
      obtain ⟨a, vs, rfl, q1, r1⟩ := hd
      cases intsOf_rps hn r1
      exact cr_sum hc pins s σ H _ us Q I rs ⟨a, ns, rfl, .inl q1, q _ _ (Same.refl H) rfl⟩
    · cases hg
  | _ => cases hg
theorem maxOf_is {ns : List Int} {m k : Int} (h : maxOf ns = some m) (hk : k ∈ ns) (hu : ∀ y ∈ ns, y ≤ k) : k = m := by
  cases ns with
  | nil => cases h
  | cons x xs =>
    cases h
    have up : ∀ (l : List Int) (a : Int), a ≤ l.foldl max a ∧ (∀ y ∈ l, y ≤ l.foldl max a) ∧ (l.foldl max a = a ∨ l.foldl max a ∈ l) := by
      intro l
      induction l with
      | nil => intro a; exact ⟨Int.le_refl a, fun y hy => (by cases hy), .inl rfl⟩
      | cons b l ih =>
        intro a
        obtain ⟨h1, h2, h3⟩ := ih (max a b)
        refine ⟨Int.le_trans (Int.le_max_left a b) h1, fun y hy => ?_, ?_⟩
        · rcases List.mem_cons.mp hy with rfl | hy
          · exact Int.le_trans (Int.le_max_right a y) h1
          · exact h2 y hy
        · rcases h3 with h3 | h3
          · rw [List.foldl_cons, h3]
            rcases Int.le_total a b with z | z
            · rw [Int.max_eq_right z]; exact .inr List.mem_cons_self
            · rw [Int.max_eq_left z]; exact .inl rfl
          · exact .inr (List.mem_cons_of_mem _ h3)
    obtain ⟨h1, h2, h3⟩ := up xs x
    have a1 : k ≤ xs.foldl max x := by
      rcases List.mem_cons.mp hk with rfl | hk
      · exact h1
      · exact h2 k hk
    have a2 : xs.foldl max x ≤ k := by
      rcases h3 with h3 | h3
      · rw [h3]; exact hu x List.mem_cons_self
      · exact hu _ (List.mem_cons_of_mem _ h3)
    omega
theorem minOf_is {ns : List Int} {m k : Int} (h : minOf ns = some m) (hk : k ∈ ns) (hu : ∀ y ∈ ns, k ≤ y) : k = m := by
  cases ns with
  | nil => cases h
  | cons x xs =>
    cases h
    have up : ∀ (l : List Int) (a : Int), l.foldl min a ≤ a ∧ (∀ y ∈ l, l.foldl min a ≤ y) ∧ (l.foldl min a = a ∨ l.foldl min a ∈ l) := by
      intro l
      induction l with
      | nil => intro a; exact ⟨Int.le_refl a, fun y hy => (by cases hy), .inl rfl⟩
      | cons b l ih =>
        intro a
        obtain ⟨h1, h2, h3⟩ := ih (min a b)
        refine ⟨Int.le_trans h1 (Int.min_le_left a b), fun y hy => ?_, ?_⟩
        · rcases List.mem_cons.mp hy with rfl | hy
          · exact Int.le_trans h1 (Int.min_le_right a y)
          · exact h2 y hy
        · rcases h3 with h3 | h3
          · rw [List.foldl_cons, h3]
            rcases Int.le_total a b with z | z
            · rw [Int.min_eq_left z]; exact .inl rfl
            · rw [Int.min_eq_right z]; exact .inr List.mem_cons_self
          · exact .inr (List.mem_cons_of_mem _ h3)
    obtain ⟨h1, h2, h3⟩ := up xs x
    have a1 : xs.foldl min x ≤ k := by
      rcases List.mem_cons.mp hk with rfl | hk
      · exact h1
      · exact h2 k hk
    have a2 : k ≤ xs.foldl min x := by
      rcases h3 with h3 | h3
      · rw [h3]; exact hu x List.mem_cons_self
      · exact hu _ (List.mem_cons_of_mem _ h3)
    omega
theorem opd_maxL (hc : X.calm = true) : CallR X (.builtin "max") (rC1 X.K maxLD) := by
  intro pins s σ H xs us Q I rs h
  obtain ⟨x, rfl, F, d, r, tr, hd, hg, q⟩ := h
  cases d with
  | list ds =>
    simp only [maxLD] at hg
    split at hg
    · rename_i m hm
      cases hg
      obtain ⟨a, vs, rfl, q1, r1⟩ := hd
      obtain ⟨ns, hn, hm⟩ := Option.bind_eq_some_iff.mp hm
      cases intsOf_rps hn r1
      have h0 : 0 < ns.length := by cases ns with | nil => cases hm | cons _ _ => simp
      exact cr_max hc pins s σ H _ us Q I rs ⟨a, ns, rfl, .inl q1, h0, fun k h1 h2 => by rw [maxOf_is hm h1 h2]; exact q _ _ (Same.refl H) rfl⟩
    · cases hg
  | _ => cases hg
theorem opd_minL (hc : X.calm = true) : CallR X (.builtin "min") (rC1 X.K minLD) := by
  intro pins s σ H xs us Q I rs h
  obtain ⟨x, rfl, F, d, r, tr, hd, hg, q⟩ := h
  cases d with
  | list ds =>
    simp only [minLD] at hg
    split at hg
    · rename_i m hm
      cases hg
      obtain ⟨a, vs, rfl, q1, r1⟩ := hd
      obtain ⟨ns, hn, hm⟩ := Option.bind_eq_some_iff.mp hm
      cases intsOf_rps hn r1
      have h0 : 0 < ns.length := by cases ns with | nil => cases hm | cons _ _ => simp
      exact cr_min hc pins s σ H _ us Q I rs ⟨a, ns, rfl, .inl q1, h0, fun k h1 h2 => by rw [minOf_is hm h1 h2]; exact q _ _ (Same.refl H) rfl⟩
    · cases hg
  | _ => cases hg
/-! ### sorted -/
theorem each_of {K : PySem.W.Frag} {F : Addr → Prop} {H : Hp} : ∀ {ds : List PyData} {vs : List V} {us : List Value}, Rps K F H ds vs → Vals vs us → PySem.W.EachIs (fun u d => ∃ x, RelV x u ∧ Rp K F H d x) us ds
  | [], _, _, h, r => by cases (show _ = [] from h); cases r; exact .nil
  | d :: ds, _, _, ⟨v, w, e, h1, h2⟩, r => by
    subst e
    cases r with
    | cons r1 r2 => exact .cons ⟨v, r1, h1⟩ (each_of h2 r2)
theorem of_each {K : PySem.W.Frag} {F : Addr → Prop} {H : Hp} : ∀ {us : List Value} {ds : List PyData}, PySem.W.EachIs (fun u d => ∃ x, RelV x u ∧ Rp K F H d x) us ds → ∃ vs, Vals vs us ∧ Rps K F H ds vs
  | _, _, .nil => ⟨[], .nil, rfl⟩
  | _, _, .cons ⟨x, r, h⟩ t => by
    obtain ⟨vs, r2, h2⟩ := of_each t
    exact ⟨x :: vs, .cons r r2, x, vs, rfl, h, h2⟩
theorem each_reads {h : Heap} : ∀ {us : List Value} {ds : List PyData} {as : List Addr}, ReadsAll h us ds as → PySem.W.EachIs (fun u d => ∃ bs, Reads h u d bs) us ds
  | [], _, _, r => by cases r; exact .nil
  | _ :: _, _, _, r => by cases r with | cons r1 r2 => exact .cons ⟨_, r1⟩ (each_reads r2)
theorem mem_depth {n : Nat} : ∀ {ds : List PyData} {d : PyData}, ds.all (fun d => decide (d.depth ≤ n)) = true → d ∈ ds → d.depth ≤ n := fun {ds d} h hm => of_decide_eq_true (List.all_eq_true.mp h d hm)
theorem opd_sorted (hu : X.A.units + 128 < cLine) : CallR X (.builtin "sorted") (rC1 X.K sortD) := by
  intro pins s σ H xs us Q I rs h
  obtain ⟨x, rfl, F, d, r, tr, hd, hg, q⟩ := h
  cases d with
  | list ds =>
    simp only [sortD] at hg
    split at hg
    · rename_i hc
      obtain ⟨c1, c2, c3⟩ := hc
      cases hg
      obtain ⟨a, vs, rfl, q1, r1⟩ := hd
      obtain ⟨its, rv, pl, hz⟩ := I.list (.inl q1)
      obtain ⟨as, ra⟩ := Dp.readsAll I ds vs its (Rps.dp ds vs r1) rv
      have l1 := r1.length
      have l2 := rv.length
      rw [Vals.ref1 rs]
      have hal : PySem.W.AllAlike (ds.map fun d => d) := by
        rw [List.map_id']
        intro d hd e he
        exact List.all_eq_true.mp (List.all_eq_true.mp c1 d hd) e he
      have hso : PySem.W.Sortable (ds.map fun d => d) := by
        rw [List.map_id']
        unfold sortB at c2
        rw [Bool.or_eq_true] at c2
        rcases c2 with c2 | c2
        · refine .inl fun d hd => ?_
          have := List.all_eq_true.mp c2 d hd
          split at this
          · exact ⟨_, _, rfl⟩
          · cases this
        · refine .inr fun d hd => ?_
          have := List.all_eq_true.mp c2 d hd
          constructor
          · intro z; subst z; cases this
          · intro ys z; subst z; cases this
      refine PySem.W.sorted_data (enc := fun d => d) (R := fun u d => ∃ x, RelV x u ∧ Rp X.K F H d x) pl.isList (each_of r1 rv) (each_reads ra) hal hso (by omega) (fun b hb => ?_) fun out ho he => ?_
      · have := mem_depth c3 hb
        show X.A.units + 2 + b.depth < cLine
        omega
      · obtain ⟨ws, rw1, rw2⟩ := of_each he
        obtain ⟨ep, he'⟩ := PyProof.Rows.sortedAll_at s.heap its out.toArray
        have np : H (s.heap.objs.size + 1) = none := I.hok.fresh (Nat.le_succ _)
        refine ⟨.ref _, upd H (s.heap.objs.size + 1) (.lst ws), I.laid (t' := s.toks) (fun _ _ => PyProof.Rows.sortedAll_old) (Nat.le_succ _) ⟨?_, out, ep, rw1, he'⟩, rfl, q _ _ (same_upd np) (Nw.mk np rw2)⟩
        have := rw1.length
        omega
    · cases hg
  | _ => cases hg
/-! ### items, slices -/
theorem atI_rps {K : PySem.W.Frag} {F : Addr → Prop} {H : Hp} {ds : List PyData} {vs : List V} {i : Int} {d : PyData} (r : Rps K F H ds vs) (h : atI ds i = some d) : ∃ v, atI vs i = some v ∧ Rp K F H d v := by
  unfold atI at h ⊢
  obtain ⟨j, h1, h2⟩ := Option.bind_eq_some_iff.mp h
  obtain ⟨v, e, q⟩ := r.get h2
  refine ⟨v, ?_, q⟩
  rw [← r.length, h1]
  exact e
theorem opd_ix : IxR X (fun x y H Q => ∃ F d e r, Trk F H ∧ Rb X.K F H d x ∧ Rb X.K F H e y ∧ ixD d e = .ok r ∧ ∀ v H', Same H H' → Rp X.K F H' r v → Q v H') := by
  intro value slice pins s σ H x y v u Q I rx ry h hs
  obtain ⟨F, d, e, r, tr, hd, he, hg, q⟩ := h
  cases d <;> cases e <;> first | (refine absurd hg ?_; intro z; cases z; done) | skip
  · simp only [ixD] at hg
    split at hg
    · rename_i hz
      cases rd_strs hd; cases rd_ints he
      split at hg
      · rename_i c hc
        cases hg
        exact ix_str value slice pins s σ H _ _ v u Q I rx ry ⟨_, _, c, rfl, rfl, hz, hc, q _ _ (Same.refl H) rfl⟩ hs
      · cases hg
    · cases hg
  · simp only [ixD] at hg
    split at hg
    · rename_i d' hc
      cases hg
      cases rd_ints he
      obtain ⟨a, vs, rfl, q1, r1⟩ := hd
      obtain ⟨w, hw, rw⟩ := atI_rps r1 hc
      exact ix_list value slice pins s σ H _ _ v u Q I rx ry ⟨a, vs, _, w, rfl, rfl, .inl q1, hw, q _ _ (Same.refl H) rw⟩ hs
    · cases hg
  · simp only [ixD] at hg
    split at hg
    · rename_i d' hc
      cases hg
      cases rd_ints he
      obtain ⟨a, vs, rfl, q1, r1⟩ := hd
      obtain ⟨w, hw, rw⟩ := atI_rps r1 hc
      exact ix_tup value slice pins s σ H _ _ v u Q I rx ry ⟨a, vs, _, w, rfl, rfl, q1, hw, q _ _ (Same.refl H) rw⟩ hs
    · cases hg
theorem cut_rps {K : PySem.W.Frag} {F : Addr → Prop} {H : Hp} {ds : List PyData} {vs : List V} (r : Rps K F H ds vs) (lo hi : Option Int) : Rps K F H (cutD ds lo hi) (cutV vs lo hi) := by
  unfold cutD cutV
  rw [r.length]
  exact (r.drop _).take _
def rSlD (K : PySem.W.Frag) : V → Option Int → Option Int → Hp → VK → Prop := fun x lo hi H Q => ∃ F d r, Trk F H ∧ Rb K F H d x ∧ slD d lo hi = .ok r ∧ ∀ v H', Same H H' → Nw K H F H' r v → Q v H'
theorem opd_sl : SlR X (rSlD X.K) := by
  intro pins s σ H x v vl vu lo hi sl Q I rx hs pl pu h
  obtain ⟨F, d, r, tr, hd, hg, q⟩ := h
  cases d with
  | list ds =>
    cases hg
    obtain ⟨a, vs, rfl, q1, r1⟩ := hd
    exact sl_list pins s σ H _ v vl vu lo hi sl Q I rx hs pl pu ⟨a, vs, rfl, .inl q1, fun p np => q _ _ (same_upd np) (Nw.mk np (cut_rps r1 lo hi))⟩
  | tuple ds =>
    cases hg
    obtain ⟨a, vs, rfl, q1, r1⟩ := hd
    refine sl_tupA pins s σ H _ v vl vu lo hi sl Q I rx hs pl pu ⟨a, vs, rfl, q1, fun z => ?_, fun _ p np => ?_⟩
    · have e : cutD ds lo hi = ds := by
        unfold cutD
        rw [r1.length, z.1, z.2, Nat.sub_zero, List.drop_zero, ← r1.length, List.take_length]
      refine q _ _ (Same.refl H) ?_
      show Rp X.K F H (.tuple (cutD ds lo hi)) _
      rw [e]
      exact ⟨a, vs, rfl, q1, r1⟩
    · exact q _ _ (same_upd np) ⟨p, _, rfl, SqT.of upd_same, cut_rps (r1.same (same_upd np)) lo hi⟩
  | _ => cases hg
end
end Pv


/-! xs[::-1] of a tuple, of a list -/
namespace Pv
open PySem PySem.Spec L2
open PyProof.Rows hiding St
open Calls PySem.P

section
variable {prog : Program} {w : World} {A : Around} {E : Value → Shared → Prop} {s : Shared}
theorem back_all (xs : Array Value) : ((List.range xs.size).filterMap fun (m : Nat) => xs[(((xs.size : Int) - 1) + (m : Int) * (-1)).toNat]?).toArray = xs.toList.reverse.toArray := by
  have e : (List.range xs.size).filterMap (fun (m : Nat) => xs[(((xs.size : Int) - 1) + (m : Int) * (-1)).toNat]?) = ((List.range xs.size).map fun m => xs.size - 1 - m).filterMap (xs[·]?) := by
    rw [List.filterMap_map]
    have cg : ∀ {l : List Nat} {f g : Nat → Option Value}, (∀ m ∈ l, f m = g m) → l.filterMap f = l.filterMap g := by
      intro l f g h
      induction l with
      | nil => rfl
      | cons a l ih =>
        rw [List.filterMap_cons, List.filterMap_cons, h a List.mem_cons_self, ih fun m hm => h m (List.mem_cons_of_mem _ hm)]
    refine cg fun m hm => ?_
    have := List.mem_range.mp hm
    show xs[(((xs.size : Int) - 1) + (m : Int) * (-1)).toNat]? = xs[xs.size - 1 - m]?
    have e2 : (((xs.size : Int) - 1) + (m : Int) * (-1)).toNat = xs.size - 1 - m := by omega
    rw [e2]
  rw [e, PySem.W.krv_range, List.filterMap_reverse, PySem.W.krv_all]
theorem applied_back {sl : Addr} {vs : Value} {n : Nat} {Q : Int × Int × Nat → Shared → Prop} (hs : s.heap.IsSliceOf sl .none .none vs) (ps : IsPart vs (some (-1)))
    (h : Q ((n : Int) - 1, -1, n) s) : wpAny (model prog w) A (Builtin.Slice.sliceApplied (.ref sl) (pure (n : Int))) Q E s := by
  obtain ⟨os, hos, hcs, hds⟩ := id hs
  unfold Builtin.Slice.sliceApplied Builtin.Slice.sliceFields
  refine wpAny_bind (wpAny_bind (wpAny_field hos hds (x := Value.none) rfl (wpAny_bind (wpAny_field hos hds (x := Value.none) rfl (wpAny_bind (wpAny_field hos hds (x := vs) rfl (wpAny_pure ?_)))))))
  refine wpAny_bind (HT.slicePart_ ps ?_)
  show wpAny _ _ (if ((-1 : Int) == 0) = true then _ else _) _ _ s
  rw [if_neg (by decide)]
  refine wpAny_bind (HT.slicePart_ .none (wpAny_bind (HT.slicePart_ .none (wpAny_bind (wpAny_pure ?_)))))
  have e1 : Builtin.Slice.sliceAdjust none none (-1) (n : Int) = ((n : Int) - 1, -1) := rfl
  have e2 : Builtin.Slice.slicePlaces ((n : Int) - 1) (-1) (-1) = n := by
    unfold Builtin.Slice.slicePlaces
    rw [if_neg (by decide)]
    by_cases h0 : (n : Int) - 1 > -1
    · rw [if_pos h0, show (-(-1) : Int) = 1 from rfl, Int.ediv_one]; omega
    · rw [if_neg h0]; omega
  show wpAny _ _ (match Builtin.Slice.sliceAdjust none none (-1) (n : Int) with | (lo, hi) => pure (lo, (-1 : Int), Builtin.Slice.slicePlaces lo hi (-1))) _ _ s
  rw [e1]
  show wpAny _ _ (pure ((n : Int) - 1, (-1 : Int), Builtin.Slice.slicePlaces ((n : Int) - 1) (-1) (-1))) _ _ s
  rw [e2]
  exact wpAny_pure h
theorem getT_back {t sl : Addr} {items : Array Value} {vs : Value} {Q : Value → Shared → Prop} (ht : IsTup s.heap t items) (hs : s.heap.IsSliceOf sl .none .none vs) (ps : IsPart vs (some (-1)))
    (h : Q (.ref s.heap.objs.size) { s with heap := s.heap.push { cls := .type "tuple", data := .seq items.toList.reverse.toArray } }) (hsz : items.size ≤ sizeLine) : wpAny (model prog w) A (getItem (.ref t) (.ref sl)) Q E s := by
  have hfit : sizeOk (.seq items.toList.reverse.toArray) := by
    show items.toList.reverse.toArray.size ≤ sizeLine
    rw [List.size_toArray, List.length_reverse, Array.length_toList]
    exact hsz
  obtain ⟨os, hos, hcs, hds⟩ := id hs
  have hTs : s.TypeIs (.ref sl) "slice" := ⟨os, hos, hcs⟩
  unfold getItem
  try with_reducible refine wpAny_holding ?_
  first | refine wpAny_bind (wpAny_pure ?_) | skip
  refine wpAny_bind (wpAny_sequenceKey ht.typeIs (by decide) ?_)
  refine wpAny_bind (wpAny_callSpecial?_slot (name := Str.ofString "__getitem__") ht.typeIs PyProof.Rows.slot_tuple_getitem (wpAny_call_entry PyProof.Rows.slot_tuple_getitem ht.typeIs entry_tuple_getitem ?_ (args_tuple_getitem _ _)))
  show wpAny _ _ (Builtin.Tuple.tupleItemsOf (.ref t) >>= _) _ _ s
  refine wpAny_bind (tupleItemsOf_ ht (wpAny_bind (wpAny_typeOf hTs ?_)))
  rw [if_pos (by decide)]
  refine wpAny_bind (applied_back hs ps ?_)
  have hno : ¬ ((((items.size : Int) - 1) == 0 && (-1 : Int) == 1 && items.size == items.size) = true) := by
    intro q
    rw [Bool.and_eq_true, Bool.and_eq_true] at q
    exact absurd q.1.2 (by decide)
  show wpAny _ _ (if ((((items.size : Int) - 1) == 0 && (-1 : Int) == 1 && items.size == items.size) = true) then _ else _) _ _ s
  rw [if_neg hno, back_all]
  first
    | exact wpAny_bind (m := Builtin.Tuple.tupleExact _) (wpAny_newObj_type (wpAny_pure ⟨_, rfl, wpAny_pure h⟩) hfit)
    | exact wpAny_bind (m := Builtin.Tuple.tupleExact _) (wpAny_newObj_type (wpAny_bind (wpAny_pure (wpAny_pure ⟨_, rfl, wpAny_pure h⟩))) hfit)
    | exact wpAny_bind (wpAny_bind (m := Builtin.Tuple.tupleExact _) (wpAny_newObj_type (wpAny_pure (wpAny_pure ⟨_, rfl, wpAny_pure h⟩)) hfit))
    | exact wpAny_bind (wpAny_bind (m := Builtin.Tuple.tupleExact _) (wpAny_newObj_type (wpAny_pure ⟨_, rfl, wpAny_pure h⟩) hfit))
end
/-- a reversed copy -/
def revD : PyData → R PyData
  | .list ds => .ok (.list ds.reverse)
  | .tuple ds => .ok (.tuple ds.reverse)
  | _ => .bad
theorem pe_back {X : Cx} {e : Expr} {te : TE} {k : Nat} {p1 p2 p3 pos : Pos} (he : PE X e te) : PE X (.Subscript e (.Slice none none (some (.UnaryOp .USub (.Constant (.int 1) k p1) p2)) p3) pos) (tUn (rD1 X.K revD) te) := by
  refine ⟨fun pins s σ H Q I h => ?_⟩
  refine Subscript_ (thn (he.run pins s σ H _ I h) fun v s1 ⟨x, H1, I1, r1, q1⟩ => ?_)
  obtain ⟨F, d, r, tr, hd, hr, q⟩ := q1
  have hst : PO X (some (.UnaryOp .USub (.Constant (.int 1) k p1) p2)) (tPart (tUn (rU fun i => .int (-i)) (tC (.int 1)))) := po_some (pe_un un_neg pe_int)
  refine wpAny_Slice (thn (po_none.run pins s1 σ H1 (fun o H2 => o = none ∧ H2 = H1) I1 ⟨rfl, rfl⟩) fun vl s2 ⟨l, H2, I2, pl, el, e2⟩ => ?_)
  subst el e2
  refine thn (po_none.run pins s2 σ H2 (fun o H3 => o = none ∧ H3 = H2) I2 ⟨rfl, rfl⟩) fun vu s3 ⟨u, H3, I3, pu, eu, e3⟩ => ?_
  subst eu e3
  refine thn (hst.run pins s3 σ H3 (fun o H4 => o = some (-1) ∧ H4 = H3) I3 ⟨1, rfl, -1, rfl, rfl, rfl⟩) fun vs s4 ⟨o, H4, I4, ps, eo, e4⟩ => ?_
  subst eo e4
  have I5 : Inv X pins σ H4 { s4 with heap := s4.heap.push { cls := .type "slice", data := .fields #[vl, vu, vs] } } := I4.kept (t' := s4.toks) fun b ob q => Heap.get?_push_of_some _ q
  have fr : H4 (s4.heap.push { cls := .type "slice", data := .fields #[vl, vu, vs] }).objs.size = none := I5.hok.fresh (Nat.le_refl _)
  cases pl
  cases pu
  cases d with
  | list ds =>
    cases hr
    obtain ⟨a, xs, rfl, hx, rp⟩ := hd
    cases r1
    obtain ⟨its, rv, ht, hz⟩ := I5.list (.inl hx)
    have hlen := rv.length
    refine tail_any (ops := [.ref a, .ref s4.heap.objs.size]) ht.isList.typeIs (PySem.slot_list_getitem.lookup) ?_ (by with_unfolding_all rfl)
    refine wpAny_getItem_list_slice ht.isList (Heap.IsSliceOf.new _ .none .none vs) .none .none ps (by decide) ?_ (by rw [List.size_toArray]; omega)
    rw [PySem.W.krv_pick]
    refine ⟨.ref _, _, I5.laid (t' := s4.toks) (o := .lst xs.reverse) (fun b ob q => Heap.get?_push_of_some _ q) (Nat.le_refl _) ?_, rfl, q _ _ (same_upd fr) (Nw.mk fr (Rps.rev rp))⟩
    exact ⟨by rw [List.length_reverse]; exact hz, _, 0, rv.reverse, Heap.get?_push_size _ rfl⟩
  | tuple ds =>
    cases hr
    obtain ⟨a, xs, rfl, hx, rp⟩ := hd
    cases r1
    obtain ⟨its, rv, ht, hz⟩ := I5.tuple hx
    have hlen := rv.length
    refine tail_any (ops := [.ref a, .ref s4.heap.objs.size]) ht.typeIs PyProof.Rows.slot_tuple_getitem.lookup ?_ (by with_unfolding_all rfl)
    refine getT_back ht (Heap.IsSliceOf.new _ .none .none vs) ps ?_ (by rw [List.size_toArray]; omega)
    refine ⟨.ref _, _, I5.laid (t' := s4.toks) (o := .tup xs.reverse) (fun b ob q => Heap.get?_push_of_some _ q) (Nat.le_refl _) ?_, rfl, q _ _ (same_upd fr) ⟨_, xs.reverse, rfl, SqT.of upd_same, (Rps.rev rp).same (same_upd fr)⟩⟩
    exact ⟨by rw [List.length_reverse]; exact hz, _, rv.reverse, IsTup.new _ _⟩
  | _ => cases hr
end Pv


/-! expressions: what is reckoned (closures), compiled from the text -/
namespace Pv
open PySem PySem.Spec L2
open PyProof.Rows hiding St

abbrev Ph := Nat → List PyData → R PyData
abbrev CE := En → R PyData
abbrev CT := En → R Bool

/-! ### the makers -/
def cVar (i : Nat) : CE := fun ρ => match ρ[i]? with
  | some (.dat d false) => .ok d
  | _ => .bad
def cVarB (i : Nat) : CE := fun ρ => match ρ[i]? with
  | some (.dat d _) => .ok d
  | _ => .bad
def cK (d : PyData) : CE := fun _ => .ok d
/-- no exception may leave -/
def quiet {α : Type} : R α → R α
  | .exc _ _ => .bad
  | r => r
def c1 (g : PyData → R PyData) (a : CE) : CE := fun ρ => (a ρ).bind fun x => quiet (g x)
def c2 (g : PyData → PyData → R PyData) (a b : CE) : CE := fun ρ => (a ρ).bind fun x => (b ρ).bind fun y => quiet (g x y)
/-- .. of a list -/
def cMe (g : PyData → PyData → R PyData) (a b : CE) : CE := fun ρ => (a ρ).bind fun x => match x with
  | .list ds => (b ρ).bind fun y => quiet (g (.list ds) y)
  | _ => .bad
def cCh (g h : PyData → PyData → R PyData) (a b c : CE) : CE := fun ρ => (a ρ).bind fun x => (b ρ).bind fun y => (quiet (g x y)).bind fun z => match z with
  | .bool true => (c ρ).bind fun w => quiet (h y w)
  | .bool false => .ok (.bool false)
  | _ => .bad
def cAll : List CE → En → R (List PyData)
  | [], _ => .ok []
  | a :: as, ρ => (a ρ).bind fun d => (cAll as ρ).bind fun ds => .ok (d :: ds)
def cTup (as : List CE) : CE := fun ρ => (cAll as ρ).bind fun ds => if ds.length ≤ 1000 then .ok (.tuple ds) else .bad
def cLst (as : List CE) : CE := fun ρ => (cAll as ρ).bind fun ds => if ds.length ≤ 1000 then .ok (.list ds) else .bad
def isB : PyData → R Bool
  | .bool b => .ok b
  | _ => .bad
def cTst (a : CE) : CT := fun ρ => (a ρ).bind fun d => quiet (isB d)
def cNotT (t : CT) : CT := fun ρ => (t ρ).bind fun b => .ok (!b)
def cAndT (t u : CT) : CT := fun ρ => (t ρ).bind fun b => if b = true then u ρ else .ok false
def cOrT (t u : CT) : CT := fun ρ => (t ρ).bind fun b => if b = true then .ok true else u ρ
def cNotV (a : CE) : CE := fun ρ => (a ρ).bind fun d => (quiet (isB d)).bind fun b => .ok (.bool (!b))
def cAndV (a b : CE) : CE := fun ρ => (a ρ).bind fun d => (quiet (isB d)).bind fun k => if k = true then b ρ else .ok (.bool false)
def cOrV (a b : CE) : CE := fun ρ => (a ρ).bind fun d => (quiet (isB d)).bind fun k => if k = true then .ok (.bool true) else b ρ
def cIfE (t : CT) (a b : CE) : CE := fun ρ => (t ρ).bind fun k => if k = true then a ρ else b ρ
def optI : Option CE → En → R (Option Int)
  | none, _ => .ok none
  | some c, ρ => (c ρ).bind fun d => match d with
    | .int i => .ok (some i)
    | _ => .bad
def cSl (a : CE) (lo hi : Option CE) : CE := fun ρ => (a ρ).bind fun d => (optI lo ρ).bind fun l => (optI hi ρ).bind fun h => slD d l h
def tyD : PyData → String
  | .none => "NoneType"
  | .bool _ => "bool"
  | .int _ => "int"
  | .str _ => "str"
  | .list _ => "list"
  | .tuple _ => "tuple"
  | .dict _ => "dict"
def isiD (ts : List String) (d : PyData) : R PyData := .ok (.bool (ts.any fun t => (tyD d == t) || (t == "int" && tyD d == "bool")))
def ownAt (ρ : En) (i : Nat) : Bool := match ρ[i]? with
  | some (.dat _ true) => true
  | _ => false
def ownAny (os : List (Option Nat)) (ρ : En) : Bool := os.any fun o => match o with
  | some i => ownAt ρ i
  | none => false
def guardF (b : Bool) : R PyData → R PyData
  | .ok d => if b = true then (if flat d = true then .ok d else .bad) else .ok d
  | .exc n es => if b = true then (if flat.flats es = true then .exc n es else .bad) else .exc n es
  | .bad => .bad
def cCall (Φ : Ph) (f : Nat) (as : List CE) (os : List (Option Nat)) : CE := fun ρ => (cAll as ρ).bind fun ds => guardF (ownAny os ρ) (Φ f ds)
/-- the target's names, the item's parts -/
inductive Tg where
  | one (i : Nat) | tup (is : List Nat)
def setAll : List Nat → List PyData → En → Option En
  | [], [], ρ => some ρ
  | i :: is, d :: ds, ρ => setAll is ds (ρ.set i (.dat d false))
  | _, _, _ => none
def tgSet (g : Tg) (d : PyData) (ρ : En) : R En :=
  match g with
  | .one i => .ok (ρ.set i (.dat d false))
  | .tup is => (match d with
    | .tuple ds => (match setAll is ds ρ with
      | some ρ' => .ok ρ'
      | none => .bad)
    | _ => .bad)
def wipeE (ρ : En) : List Nat → En
  | [] => ρ
  | v :: vs => (wipeE ρ vs).set v .no
abbrev CI := En → R (List PyData)
def compL (g : Tg) (t : CT) (e : CE) (ρ : En) : List PyData → R (List PyData)
  | [] => .ok []
  | d :: ds => (tgSet g d ρ).bind fun ρ' => (t ρ').bind fun b => if b = true then (e ρ').bind fun y => (compL g t e ρ ds).bind fun ys => .ok (y :: ys) else compL g t e ρ ds
def cComp (it : CI) (vs : List Nat) (g : Tg) (t : CT) (e : CE) : CE := fun ρ => (it ρ).bind fun ds => if vs.any (ownAt ρ) = true then .bad else (quiet (compL g t e (wipeE ρ vs) ds)).bind fun ys => .ok (.list ys)
def tYesC : CT := fun _ => .ok true
def itD : PyData → R (List PyData)
  | .list ds | .tuple ds => .ok ds
  | .str z => if z.length ≤ 16000000 then .ok (z.cps.toList.map fun c => .str ⟨#[c]⟩) else .bad
  | _ => .bad
def cItE (a : CE) : CI := fun ρ => (a ρ).bind fun d => quiet (itD d)
def intB : PyData → R Int
  | .int i => if -(2 ^ 62) ≤ i ∧ i < 2 ^ 62 then .ok i else .bad
  | _ => .bad
def rangeL (a b : Int) : List PyData := (List.range (b - a).toNat).map fun (k : Nat) => .int (a + k)
def cRange1 (a : CE) : CI := fun ρ => (a ρ).bind fun d => (quiet (intB d)).bind fun i => if i ≤ 16000000 then .ok (rangeL 0 i) else .bad
def cRange2 (a b : CE) : CI := fun ρ => (a ρ).bind fun d => (b ρ).bind fun e => (quiet (intB d)).bind fun i => (quiet (intB e)).bind fun j => if j - i ≤ 16000000 then .ok (rangeL i j) else .bad
def enumL (ds : List PyData) : List PyData := ds.zipIdx.map fun p => .tuple [.int p.2, p.1]
def cEnum (a : CE) : CI := fun ρ => (a ρ).bind fun d => match d with
  | .list ds => .ok (enumL ds)
  | _ => .bad

/-! ### the text -/
structure FnI where
  name : Str
  params : Arguments
  ps : List Str
  body : List Stmt
  scope : Scope
  N : List Str
structure ClI where
  name : Str
  flds : List Str
  ups : List Str
structure GI where
  fns : List FnI
  cons : List (Str × PyData)
  cls : List ClI
structure Lc where
  N : List Str
  nm : List (Str × NameKind)
  calm : Bool := true
  en : Option Str := none
def ixOf (x : Str) : List Str → Nat → Option Nat
  | [], _ => none
  | y :: ys, k => if x = y then some k else ixOf x ys (k + 1)
def Lc.slot (L : Lc) (x : Str) : Option Nat := match L.nm.lookup x with
  | some .local | some .cell | some .free => if x = ("__debug__" : Str) ∨ x = ("__classdict__" : Str) then none else ixOf x L.N 0
  | _ => none
def Lc.glob (L : Lc) (x : Str) : Bool := match L.nm.lookup x with
  | some .globalImplicit => !(x == ("__debug__" : Str)) && !(x == ("__name__" : Str))
  | _ => false
def notStar : Expr → Bool
  | .Starred _ _ => false
  | _ => true
def plainB : Expr → Bool
  | .Name _ _ | .Subscript _ _ _ => true
  | _ => false
def notSet : Expr → Bool
  | .Set _ _ _ => false
  | _ => true
def opF : Operator → Option (PyData → PyData → R PyData)
  | .Add => some addD
  | .Sub => some subD
  | .FloorDiv => some fdivD
  | .Mod => some modD
  | .Pow => some powD
  | _ => none
def cmpF : CmpOp → PyData → PyData → R PyData
  | .Eq => eqD
  | .NotEq => neD
  | .Lt => ltD
  | .LtE => leD
  | .Gt => gtD
  | .GtE => geD
  | .Is => isD
  | .IsNot => isntD
  | .In => inD
  | .NotIn => notInD
/-- the ints alone -/
def mulI : PyData → PyData → R PyData
  | .int i, e => mulD (.int i) e
  | _, _ => .bad
def fnIx (x : Str) : List FnI → Nat → Option (Nat × FnI)
  | [], _ => none
  | f :: fs, k => if x = f.name then some (k, f) else fnIx x fs (k + 1)
def tyName : Str → Option String := fun x =>
  if x = ("int" : Str) then some "int" else if x = ("bool" : Str) then some "bool" else if x = ("str" : Str) then some "str" else if x = ("list" : Str) then some "list" else if x = ("tuple" : Str) then some "tuple" else if x = ("dict" : Str) then some "dict" else none
def tysOf (L : Lc) : Expr → Option (List String)
  | .Name x _ => if L.glob x = true then (tyName x).map fun t => [t] else none
  | _ => none
def isTys (L : Lc) : Expr → Option (List String)
  | .Tuple es _ _ => if es.length ≤ 100 then (es.mapM (tysOf L)).map fun l => l.flatten else none
  | b => tysOf L b
/-- [::-1] -/
def revSl : Option Expr → Option Expr → Expr → Bool
  | none, none, .UnaryOp .USub (.Constant (.int i) _ _) _ => decide (i = 1)
  | _, _, _ => false
/-- tuple(range(b)), list(range(b)) -/
def rgOf (L : Lc) (x : Str) : Expr → Option Expr
  | .Call (.Name y _) [b] [] _ => if (x = ("tuple" : Str) ∨ x = ("list" : Str)) ∧ y = ("range" : Str) ∧ L.glob y = true ∧ L.calm = true ∧ notStar b = true then some b else none
  | _ => none
def cRgS (l : Bool) (a : CE) : CE := fun ρ => (cRange1 a ρ).bind fun ds => .ok (if l = true then .list ds else .tuple ds)
/-- the name of the exception that the suite holds -/
def exnOf (L : Lc) : Expr → Option Nat
  | .Name x _ => if L.en = some x then L.slot x else none
  | _ => none
/-- a built-in of one argument -/
def bi1 (calm : Bool) : Str → Option (Bool × (PyData → R PyData)) := fun x =>
  if x = ("len" : Str) then some (false, lenD) else if x = ("list" : Str) then some (true, listD) else if x = ("tuple" : Str) then some (false, tupleD) else if x = ("int" : Str) then some (false, intD)
  else if calm = false then none else if x = ("sorted" : Str) then some (true, sortD) else if x = ("sum" : Str) then some (false, sumD) else if x = ("max" : Str) then some (false, maxLD) else if x = ("min" : Str) then some (false, minLD) else if x = ("abs" : Str) then some (false, absD) else none
def bi2 (calm : Bool) : Str → Option (PyData → PyData → R PyData) := fun x =>
  if calm = false then none else if x = ("max" : Str) then some max2D else if x = ("min" : Str) then some min2D else none
def countD (d e : PyData) : R PyData := match d with
  | .list ds => if e.depth ≤ 60 then .ok (.int (ds.countP fun z => PyData.eqv z e : Nat)) else .bad
  | _ => .bad
def indexD (d e : PyData) : R PyData := match d with
  | .list ds => if e.depth ≤ 60 then (match ds.findIdx? fun z => PyData.eqv z e with
    | some j => .ok (.int (j : Nat))
    | none => .bad) else .bad
  | _ => .bad
def me1 : Str → Option (PyData → PyData → R PyData) := fun x =>
  if x = ("count" : Str) then some countD else if x = ("index" : Str) then some indexD else none
/-- a name that the block may store -/
def Lc.lslot (L : Lc) (x : Str) : Option Nat := match L.nm.lookup x with
  | some .local | some .cell => L.slot x
  | _ => none
def tgName (L : Lc) : Expr → Option Nat
  | .Name x _ => L.lslot x
  | _ => none
/-- the names that a target stores -/
def tgOf (L : Lc) : Expr → Option Tg
  | .Name x _ => (L.lslot x).map .one
  | .Tuple es _ _ => (es.mapM (tgName L)).map .tup
  | _ => none
def Tg.ixs : Tg → List Nat
  | .one i => [i]
  | .tup is => is
/-- the block's own names with their places -/
def ownOf (N : List Str) (names : List (Str × NameKind)) : List (Str × Nat) := names.filterMap fun y => match y.2 with
  | .local | .cell => (ixOf y.1 N 0).map fun i => (y.1, i)
  | _ => none

def GI.flds (G : GI) (n : Str) : List Str := match G.cls.find? fun c => decide (c.name = n) with
  | some c => c.flds
  | none => []
def GI.ups (G : GI) (n : Str) : List Str := match G.cls.find? fun c => decide (c.name = n) with
  | some c => c.ups
  | none => []
def biExc : List Str := ["ValueError", "Exception", "TypeError", "KeyError", "IndexError"]
def GI.has (G : GI) (x : Str) : Bool := G.cls.any fun c => decide (c.name = x)
def GI.clsName (G : GI) (x : Str) : Bool := G.has x || decide (x ∈ biExc)
def exTy1 (G : GI) (L : Lc) : Expr → Option Str
  | .Name x _ => if L.glob x && G.clsName x then some x else none
  | _ => none
def exTys (G : GI) (L : Lc) : Expr → Option (List Str)
  | .Tuple es _ _ => if es.length ≤ 100 then es.mapM (exTy1 G L) else none
  | e => (exTy1 G L e).map fun x => [x]
/-- a field of the exception that a suite holds; its class -/
def cFld (G : GI) (i : Nat) (f : Str) : CE := fun ρ => match ρ[i]? with
  | some (.exn n ds) => if G.has n = true ∧ f ∈ G.flds n then (match ((G.flds n).zip ds).lookup f with
    | some d => .ok d
    | none => .bad) else .bad
  | _ => .bad
def cIsE (G : GI) (i : Nat) (ts : List Str) : CE := fun ρ => match ρ[i]? with
  | some (.exn n _) => if G.has n = true then .ok (.bool (ts.any fun t => decide (t ∈ G.ups n))) else .bad
  | _ => .bad

variable (G : GI) (Φ : Ph)
mutual
/-- an expression; the first part tells that a list which comes is new -/
def cE : Nat → Lc → Expr → Option (Bool × CE)
  | 0, _, _ => none
  | n + 1, L, e => match e with
    | .Name x _ => (match L.slot x with
      | some i => some (false, cVar i)
      | none => if L.glob x = true then (G.cons.lookup x).map fun d => (false, cK d) else none)
    | .Constant c _ _ => (match c with
      | .int i => some (false, cK (.int i))
      | .bool b => some (false, cK (.bool b))
      | .str s => some (false, cK (.str s))
      | .none => some (false, cK .none)
      | _ => none)
    | .BinOp a op b _ => (match op with
      | .Mult => (do
        let (fa, ca) ← cE n L a
        let cb ← cB n L b
        if fa then some (true, c2 mulD ca cb) else some (true, c2 mulI ca cb))
      | op => (do
        let g ← opF op
        let ca ← cB n L a
        let cb ← cB n L b
        some (true, c2 g ca cb)))
    | .UnaryOp op a _ => (match op with
      | .USub => (do let ca ← cB n L a; some (false, c1 negD ca))
      | .Not => (do let ca ← cB n L a; some (false, cNotV ca))
      | _ => none)
    | .BoolOp op es _ => (do let c ← cBo n L op es; some (false, c))
    | .Compare a ops bs _ => (match ops, bs with
      | [op], [b] => if notSet b = true then (do
        let ca ← cB n L a
        let cb ← cB n L b
        some (false, c2 (cmpF op) ca cb)) else none
      | [op, op'], [b, c] => if notSet b && notSet c then (do
        let ca ← cB n L a
        let cb ← cB n L b
        let cc ← cB n L c
        some (false, cCh (cmpF op) (cmpF op') ca cb cc)) else none
      | _, _ => none)
    | .IfExp t a b _ => (do
      let ct ← cT n L t
      let (_, ca) ← cE n L a
      let (_, cb) ← cE n L b
      some (false, cIfE ct ca cb))
    | .Subscript v i _ => (match i with
      | .Slice lo hi none _ => (do
        let cv ← cB n L v
        let cl ← cO n L lo
        let ch ← cO n L hi
        some (true, cSl cv cl ch))
      | .Slice lo hi (some z) _ => if revSl lo hi z = true then (do
        let cv ← cB n L v
        some (true, c1 revD cv)) else none
      | i => (do
        let cv ← cB n L v
        let ci ← cB n L i
        some (false, c2 ixD cv ci)))
    | .Tuple es _ _ => (do let cs ← cEs n L es; some (false, cTup cs))
    | .List es _ => (do let cs ← cEs n L es; some (true, cLst cs))
    | .ListComp elt gs sc _ => (match gs with
      | [⟨tg, it, ifs, ia⟩] => if ia = 0 ∧ (L.calm && notSet it) = true then (do
        let ci ← cI n L true it
        let own := ownOf L.N sc.names
        if blkC L.N { kind := .function, names := L.nm, isGenerator := false, isCoroutine := false } sc own = true then
          let L' : Lc := { N := L.N, nm := sc.names, calm := true, en := none }
          let g ← tgOf L' tg
          if (g.ixs.all fun i => decide (i ∈ own.map (·.2))) = true then
            let t ← (match ifs with | [] => some tYesC | [c] => cT n L' c | _ => none)
            let (_, ce) ← cE n L' elt
            some (true, cComp ci (own.map (·.2)) g t ce)
          else none
        else none) else none
      | _ => none)
    | .Attribute o f _ => (exnOf L o).map fun i => (false, cFld G i f)
    | .Call f as ks cpos => (match f, ks with
      | .Name x _, [] => if L.glob x = true ∧ as.all notStar = true then (match fnIx x G.fns 0 with
        | some (k, fi) => if as.length = fi.ps.length ∧ L.calm = true ∧ as.length ≠ 0 then (do
          let (cs, os) ← cAs n L as
          some (false, cCall Φ k cs os)) else none
        | none => (match as with
          | [a] => (match rgOf L x a with
            | some b => (do
              let cb ← cB n L b
              some (decide (x = ("list" : Str)), cRgS (decide (x = ("list" : Str))) cb))
            | none => (do
              let (fr, g) ← bi1 L.calm x
              let ca ← cB n L a
              some (fr, c1 g ca)))
          | [a, b] => if x = ("isinstance" : Str) then (match exnOf L a with
            | some i => (exTys G L b).map fun ts => (false, cIsE G i ts)
            | none => (do
              let ts ← isTys L b
              let ca ← cB n L a
              some (false, c1 (isiD ts) ca)))
            else (do
              let g ← bi2 L.calm x
              let ca ← cB n L a
              let cb ← cB n L b
              some (false, c2 g ca cb))
          | _ => none)) else none
      | .Attribute o m apos, [] => (match as with
        | [a] => if notStar a = true ∧ plainB o = true ∧ (apos.endLine == cpos.line) = true then (do
          let g ← me1 m
          let co ← cB n L o
          let ca ← cB n L a
          some (false, cMe g co ca)) else none
        | _ => none)
      | _, _ => none)
    | _ => none
/-- .. at a place that only reads it -/
def cB : Nat → Lc → Expr → Option CE
  | 0, _, _ => none
  | n + 1, L, e => match e with
    | .Name x p => (match L.slot x with
      | some i => some (cVarB i)
      | none => (cE n L (.Name x p)).map (·.2))
    | e => (cE n L e).map (·.2)
def cEs : Nat → Lc → List Expr → Option (List CE)
  | 0, _, _ => none
  | n + 1, L, es => match es with
    | [] => some []
    | e :: r => if notStar e = true then (do
      let (_, c) ← cE n L e
      let cs ← cEs n L r
      some (c :: cs)) else none
/-- arguments of a def: a list of one's own may be lent -/
def cAs : Nat → Lc → List Expr → Option (List CE × List (Option Nat))
  | 0, _, _ => none
  | n + 1, L, es => match es with
    | [] => some ([], [])
    | e :: r => (do
      let c ← cB n L e
      let (cs, os) ← cAs n L r
      some (c :: cs, (match e with | .Name x _ => L.slot x | _ => none) :: os))
def cO : Nat → Lc → Option Expr → Option (Option CE)
  | 0, _, _ => none
  | n + 1, L, o => match o with
    | none => some none
    | some e => (do let c ← cB n L e; some (some c))
def cBo : Nat → Lc → BoolOp → List Expr → Option CE
  | 0, _, _, _ => none
  | n + 1, L, op, es => match es with
    | [] => none
    | [a] => (cE n L a).map (·.2)
    | a :: r => (do
      let ca ← cB n L a
      let cr ← cBo n L op r
      match op with
      | .And => some (cAndV ca cr)
      | .Or => some (cOrV ca cr))
def cT : Nat → Lc → Expr → Option CT
  | 0, _, _ => none
  | n + 1, L, e => match e with
    | .UnaryOp .Not a _ => (do let t ← cT n L a; some (cNotT t))
    | .BoolOp op es _ => cTo n L op es
    | .IfExp _ _ _ _ => none
    | e => (do let c ← cB n L e; some (cTst c))
def cTo : Nat → Lc → BoolOp → List Expr → Option CT
  | 0, _, _, _ => none
  | n + 1, L, op, es => match es with
    | [] => none
    | [a] => cT n L a
    | a :: r => (do
      let ca ← cT n L a
      let cr ← cTo n L op r
      match op with
      | .And => some (cAndT ca cr)
      | .Or => some (cOrT ca cr))
/-- what a for walks; lent: a list of one's own may be walked (a comprehension) -/
def cI : Nat → Lc → Bool → Expr → Option CI
  | 0, _, _, _ => none
  | n + 1, L, lent, e => match e with
    | .Call (.Name x _) [a] [] _ => if (L.glob x && notStar a) && decide (x = ("range" : Str)) then (do let ca ← cB n L a; some (cRange1 ca)) else cI0 n L lent e
    | .Call (.Name x _) [a, b] [] _ => if (L.glob x && (notStar a && notStar b)) && decide (x = ("range" : Str)) then (do
        let ca ← cB n L a
        let cb ← cB n L b
        some (cRange2 ca cb)) else cI0 n L lent e
    | e => cI0 n L lent e
def cI0 : Nat → Lc → Bool → Expr → Option CI
  | 0, _, _, _ => none
  | n + 1, L, lent, e => if lent then (do let c ← cB n L e; some (cItE c)) else (do let (_, c) ← cE n L e; some (cItE c))
end
end Pv


/-! expressions: the closures tell what the text does -/
namespace Pv
open PySem PySem.Spec L2
open PyProof.Rows hiding St

theorem PE.imp {X : Cx} {e : Expr} {t t' : TE} (h : PE X e t) (hm : ∀ σ H Q, t' σ H Q → t σ H Q) : PE X e t' := ⟨fun pins s σ H Q I q => h.run pins s σ H Q I (hm σ H Q q)⟩
theorem PT.imp {X : Cx} {e : Expr} {t t' : TT} (h : PT X e t) (hm : ∀ σ H Q, t' σ H Q → t σ H Q) : PT X e t' := ⟨fun pins s σ H Q I q => h.run pins s σ H Q I (hm σ H Q q)⟩
theorem PW.imp {X : Cx} {e : Expr} {t t' : TT} (h : PW X e t) (hm : ∀ σ H Q, t' σ H Q → t σ H Q) : PW X e t' := ⟨fun wh pins s σ H Q I q => h.run wh pins s σ H Q I (hm σ H Q q)⟩
theorem PA.imp {X : Cx} {e : List Expr} {t t' : TA} (h : PA X e t) (hm : ∀ σ H Q, t' σ H Q → t σ H Q) : PA X e t' := ⟨fun pos pins s σ H Q I q => h.run pos pins s σ H Q I (hm σ H Q q)⟩

section
variable {K : PySem.W.Frag} {G : Gx} {W : WX} {σ : St} {H : Hp}
theorem Post.ok_of {α β : Type} {rep : (Addr → Prop) → Hp → α → β → Prop} {F : Addr → Prop} {r : R α} {Q : β → Hp → Prop} (p : Post K G W rep σ F H (quiet r) Q) : ∃ d, r = .ok d ∧ ∀ v H', Same H H' → rep F H' d v → Q v H' := by
  cases r with
  | ok d => exact ⟨d, rfl, p⟩
  | exc n ds => exact False.elim p
  | bad => exact False.elim p
theorem Post.weak {α β : Type} {rep rep' : (Addr → Prop) → Hp → α → β → Prop} {F : Addr → Prop} {r : R α} {Q : β → Hp → Prop} (p : Post K G W rep σ F H r Q) (h : ∀ d v H', Same H H' → rep' F H' d v → rep F H' d v) : Post K G W rep' σ F H r Q := by
  cases r with
  | ok d => exact fun v H' s q => p v H' s (h d v H' s q)
  | exc n ds => exact p
  | bad => exact p
theorem quiet_bind {α β γ : Type} {rep : (Addr → Prop) → Hp → β → γ → Prop} {F : Addr → Prop} {r : R α} {k : α → R β} {Q : γ → Hp → Prop} (p : Post K G W rep σ F H ((quiet r).bind k) Q) : ∃ d, r = .ok d ∧ Post K G W rep σ F H (k d) Q := by
  cases r with
  | ok d => exact ⟨d, rfl, p⟩
  | exc n ds => exact False.elim p
  | bad => exact False.elim p
end
theorem Nw.older {K : PySem.W.Frag} {H H1 H' : Hp} {F : Addr → Prop} {d : PyData} {v : V} (s : Same H H1) (h : Nw K H1 F H' d v) : Nw K H F H' d v := by
  cases d with
  | list ds => obtain ⟨p, vs, e, n, q, r⟩ := h; exact ⟨p, vs, e, s.free n, q, r⟩
  | _ => exact h
theorem RE.trk {K : PySem.W.Frag} {G : Gx} {F M : Addr → Prop} {H₀ H : Hp} {ρ : En} {σ : St} (r : RE K G F H₀ M ρ σ H) : Trk (FF F ρ σ) H := fun a h => r.ff h

/-- the readings: a value, a new list where one comes, a value at hand, a truth, several values -/
def tE (K : PySem.W.Frag) (G : Gx) (W : WX) (c : CE) : TE := fun σ H Q => tR K G W (Rp K) c σ H Q
def tF (K : PySem.W.Frag) (G : Gx) (W : WX) (c : CE) : TE := fun σ H Q => tR K G W (Nw K H) c σ H Q
def tB (K : PySem.W.Frag) (G : Gx) (W : WX) (c : CE) : TE := fun σ H Q => tR K G W (Rb K) c σ H Q
def tTst (K : PySem.W.Frag) (G : Gx) (W : WX) (c : CT) : TT := fun σ H Q => tR K G W (fun _ _ (b b' : Bool) => b = b') c σ H Q
def tEs (K : PySem.W.Frag) (G : Gx) (W : WX) (c : En → R (List PyData)) : TA := fun σ H Q => tR K G W (Rps K) c σ H Q
section
variable {K : PySem.W.Frag} {G : Gx} {W : WX} {σ : St} {H : Hp} {Q : VK} {c : CE}
theorem tE_F (h : tE K G W c σ H Q) : tF K G W c σ H Q := by
  obtain ⟨F, H₀, M, ρ, re, p⟩ := h
  exact ⟨F, H₀, M, ρ, re, p.weak fun d v H' s q => q.rp re.trk⟩
theorem tB_E (h : tB K G W c σ H Q) : tE K G W c σ H Q := by
  obtain ⟨F, H₀, M, ρ, re, p⟩ := h
  exact ⟨F, H₀, M, ρ, re, p.weak fun d v H' s q => q.rb⟩
theorem tB_F (h : tB K G W c σ H Q) : tF K G W c σ H Q := tE_F (tB_E h)
/-! two values, an operator -/
theorem tF_c2 {g : PyData → PyData → R PyData} {a b : CE} (h : tF K G W (c2 g a b) σ H Q) : tOp (rD K g) (tB K G W a) (tB K G W b) σ H Q := by
  obtain ⟨F, H₀, M, ρ, re, p⟩ := h
  refine ⟨F, H₀, M, ρ, re, p.bind fun x v H1 s1 r1 p1 => ⟨F, H₀, M, ρ, re.same s1, p1.bind fun y u H2 s2 r2 p2 => ?_⟩⟩
  obtain ⟨r, e, q⟩ := p2.ok_of
  exact ⟨_, x, y, r, (re.same (s1.trans s2)).trk, r1.same s2, r2, e, fun w H' s' n => q w H' s' (n.older (s1.trans s2))⟩
theorem tE_c2 {g : PyData → PyData → R PyData} {a b : CE} (h : tE K G W (c2 g a b) σ H Q) : tOp (rD K g) (tB K G W a) (tB K G W b) σ H Q := tF_c2 (tE_F h)
theorem tF_c1 {g : PyData → R PyData} {a : CE} (h : tF K G W (c1 g a) σ H Q) : tB K G W a σ H fun x H1 => rD1 K g x H1 Q := by
  obtain ⟨F, H₀, M, ρ, re, p⟩ := h
  refine ⟨F, H₀, M, ρ, re, p.bind fun x v H1 s1 r1 p1 => ?_⟩
  obtain ⟨r, e, q⟩ := p1.ok_of
  exact ⟨_, x, r, (re.same s1).trk, r1, e, fun w H' s' n => q w H' s' (n.older s1)⟩
theorem tE_ix {a b : CE} (h : tE K G W (c2 ixD a b) σ H Q) : tOp (fun x y H Q => ∃ F d e r, Trk F H ∧ Rb K F H d x ∧ Rb K F H e y ∧ ixD d e = .ok r ∧ ∀ v H', Same H H' → Rp K F H' r v → Q v H') (tB K G W a) (tB K G W b) σ H Q := by
  obtain ⟨F, H₀, M, ρ, re, p⟩ := h
  refine ⟨F, H₀, M, ρ, re, p.bind fun x v H1 s1 r1 p1 => ⟨F, H₀, M, ρ, re.same s1, p1.bind fun y u H2 s2 r2 p2 => ?_⟩⟩
  obtain ⟨r, e, q⟩ := p2.ok_of
  exact ⟨_, x, y, r, (re.same (s1.trans s2)).trk, r1.same s2, r2, e, q⟩
theorem tF_mulD {a b : CE} (h : tF K G W (c2 mulD a b) σ H Q) : tOp (rMul K) (tF K G W a) (tB K G W b) σ H Q := by
  obtain ⟨F, H₀, M, ρ, re, p⟩ := h
  refine ⟨F, H₀, M, ρ, re, p.bind fun x v H1 s1 r1 p1 => ⟨F, H₀, M, ρ, re.same s1, p1.bind fun y u H2 s2 r2 p2 => ?_⟩⟩
  obtain ⟨r, e, q⟩ := p2.ok_of
  have rest : rD K mulD v u H2 Q := ⟨_, x, y, r, (re.same (s1.trans s2)).trk, ((r1.rp re.trk).same s2).rb, r2, e, fun w H' s' n => q w H' s' (n.older (s1.trans s2))⟩
  cases x with
  | list ds =>
    obtain ⟨pp, vs, ev, np, q1, _⟩ := r1
    exact .inl ⟨pp, vs, ev, s2 _ _ q1, rest⟩
  | int i => exact .inr ⟨i, r1, rest⟩
  | none => cases e
  | bool _ => cases e
  | str _ => cases e
  | tuple _ => cases e
  | dict _ => cases e
theorem tF_mulI {a b : CE} (h : tF K G W (c2 mulI a b) σ H Q) : tOp (rMul K) (tB K G W a) (tB K G W b) σ H Q := by
  obtain ⟨F, H₀, M, ρ, re, p⟩ := h
  refine ⟨F, H₀, M, ρ, re, p.bind fun x v H1 s1 r1 p1 => ⟨F, H₀, M, ρ, re.same s1, p1.bind fun y u H2 s2 r2 p2 => ?_⟩⟩
  obtain ⟨r, e, q⟩ := p2.ok_of
  cases x with
  | int i =>
    cases rd_ints r1
    exact .inr ⟨i, rfl, _, .int i, y, r, (re.same (s1.trans s2)).trk, rfl, r2, e, fun w H' s' n => q w H' s' (n.older (s1.trans s2))⟩
  | none => cases e
  | bool _ => cases e
  | str _ => cases e
  | list _ => cases e
  | tuple _ => cases e
  | dict _ => cases e
/-! tests -/
theorem isB_ok {d : PyData} {b : Bool} (h : isB d = .ok b) : d = .bool b := by
  cases d with
  | bool c => cases h; rfl
  | _ => cases h
theorem tTst_E {c : CE} {Q : Bool → Hp → Prop} (h : tTst K G W (cTst c) σ H Q) : tB K G W c σ H fun x H' => ∃ k, x = .bl k ∧ Q k H' := by
  obtain ⟨F, H₀, M, ρ, re, p⟩ := h
  refine ⟨F, H₀, M, ρ, re, p.bind fun x v H1 s1 r1 p1 => ?_⟩
  obtain ⟨b, e, q⟩ := p1.ok_of
  cases isB_ok e
  exact ⟨b, r1, q b H1 (Same.refl H1) rfl⟩
theorem tTst_not {t : CT} {Q : Bool → Hp → Prop} (h : tTst K G W (cNotT t) σ H Q) : tNot (tTst K G W t) σ H Q := by
  obtain ⟨F, H₀, M, ρ, re, p⟩ := h
  exact ⟨F, H₀, M, ρ, re, p.bind fun x v H1 s1 r1 p1 => by subst r1; exact p1 _ H1 (Same.refl H1) rfl⟩
theorem tTst_and {t u : CT} {Q : Bool → Hp → Prop} (h : tTst K G W (cAndT t u) σ H Q) : tAnd (tTst K G W t) (tTst K G W u) σ H Q := by
  obtain ⟨F, H₀, M, ρ, re, p⟩ := h
  refine ⟨F, H₀, M, ρ, re, p.bind fun x v H1 s1 r1 p1 => ?_⟩
  subst r1
  cases x with
  | true => exact ⟨F, H₀, M, ρ, re.same s1, p1⟩
  | false => exact p1 _ H1 (Same.refl H1) rfl
theorem tTst_or {t u : CT} {Q : Bool → Hp → Prop} (h : tTst K G W (cOrT t u) σ H Q) : tOr (tTst K G W t) (tTst K G W u) σ H Q := by
  obtain ⟨F, H₀, M, ρ, re, p⟩ := h
  refine ⟨F, H₀, M, ρ, re, p.bind fun x v H1 s1 r1 p1 => ?_⟩
  subst r1
  cases x with
  | false => exact ⟨F, H₀, M, ρ, re.same s1, p1⟩
  | true => exact p1 _ H1 (Same.refl H1) rfl
theorem tE_notV {a : CE} (h : tE K G W (cNotV a) σ H Q) : tNotV (tB K G W a) σ H Q := by
  obtain ⟨F, H₀, M, ρ, re, p⟩ := h
  refine ⟨F, H₀, M, ρ, re, p.bind fun x v H1 s1 r1 p1 => ?_⟩
  obtain ⟨b, e, q⟩ := quiet_bind p1
  cases isB_ok e
  exact ⟨b, r1, q _ H1 (Same.refl H1) rfl⟩
theorem tE_andV {a b : CE} (h : tE K G W (cAndV a b) σ H Q) : tAndV (tB K G W a) (tE K G W b) σ H Q := by
  obtain ⟨F, H₀, M, ρ, re, p⟩ := h
  refine ⟨F, H₀, M, ρ, re, p.bind fun x v H1 s1 r1 p1 => ?_⟩
  obtain ⟨k, e, q⟩ := quiet_bind p1
  cases isB_ok e
  refine ⟨k, r1, ?_⟩
  cases k with
  | true => exact ⟨F, H₀, M, ρ, re.same s1, q⟩
  | false => exact q _ H1 (Same.refl H1) rfl
theorem tE_orV {a b : CE} (h : tE K G W (cOrV a b) σ H Q) : tOrV (tB K G W a) (tE K G W b) σ H Q := by
  obtain ⟨F, H₀, M, ρ, re, p⟩ := h
  refine ⟨F, H₀, M, ρ, re, p.bind fun x v H1 s1 r1 p1 => ?_⟩
  obtain ⟨k, e, q⟩ := quiet_bind p1
  cases isB_ok e
  refine ⟨k, r1, ?_⟩
  cases k with
  | false => exact ⟨F, H₀, M, ρ, re.same s1, q⟩
  | true => exact q _ H1 (Same.refl H1) rfl
theorem tE_ifE {t : CT} {a b : CE} (h : tE K G W (cIfE t a b) σ H Q) : tIf (tTst K G W t) (tE K G W a) (tE K G W b) σ H Q := by
  obtain ⟨F, H₀, M, ρ, re, p⟩ := h
  refine ⟨F, H₀, M, ρ, re, p.bind fun x v H1 s1 r1 p1 => ?_⟩
  subst r1
  cases x with
  | true => exact ⟨F, H₀, M, ρ, re.same s1, p1⟩
  | false => exact ⟨F, H₀, M, ρ, re.same s1, p1⟩
theorem tE_ch {g h : PyData → PyData → R PyData} {a b c : CE} (hh : tE K G W (cCh g h a b c) σ H Q) : tChain (rD K g) (rD K h) (tB K G W a) (tB K G W b) (tB K G W c) σ H Q := by
  obtain ⟨F, H₀, M, ρ, re, p⟩ := hh
  refine ⟨F, H₀, M, ρ, re, p.bind fun x v H1 s1 r1 p1 => ⟨F, H₀, M, ρ, re.same s1, p1.bind fun y u H2 s2 r2 p2 => ?_⟩⟩
  obtain ⟨z, e, q⟩ := quiet_bind p2
  refine ⟨_, x, y, z, (re.same (s1.trans s2)).trk, r1.same s2, r2, e, fun w H3 s3 n3 => ?_⟩
  cases z with
  | bool k =>
    refine ⟨k, n3, ?_⟩
    cases k with
    | false => exact q _ H3 s3 rfl
    | true =>
      have re3 := re.same ((s1.trans s2).trans s3)
      refine ⟨F, H₀, M, ρ, re3, (Post.same q s3).bind fun w' v4 H4 s4 r4 p4 => ?_⟩
      obtain ⟨z', e', q'⟩ := p4.ok_of
      exact ⟨_, y, w', z', (re3.same s4).trk, r2.same (s3.trans s4), r4, e', fun v5 H5 s5 n5 => q' v5 H5 s5 (n5.rp (re3.same s4).trk)⟩
  | _ => exact False.elim q
/-! displays -/
theorem tEs_nil {Q : List V → Hp → Prop} (h : tEs K G W (cAll []) σ H Q) : tNil σ H Q := by
  obtain ⟨F, H₀, M, ρ, re, p⟩ := h
  exact p [] H (Same.refl H) rfl
theorem tEs_cons {c : CE} {cs : List CE} {Q : List V → Hp → Prop} (h : tEs K G W (cAll (c :: cs)) σ H Q) : tCons (tE K G W c) (tEs K G W (cAll cs)) σ H Q := by
  obtain ⟨F, H₀, M, ρ, re, p⟩ := h
  refine ⟨F, H₀, M, ρ, re, p.bind fun x v H1 s1 r1 p1 => ⟨F, H₀, M, ρ, re.same s1, p1.bind fun ys us H2 s2 r2 p2 => ?_⟩⟩
  exact p2 _ H2 (Same.refl H2) ⟨v, us, rfl, r1.same s2, r2⟩
theorem tE_tup {cs : List CE} (h : tE K G W (cTup cs) σ H Q) : tTup (tEs K G W (cAll cs)) σ H Q := by
  obtain ⟨F, H₀, M, ρ, re, p⟩ := h
  refine ⟨F, H₀, M, ρ, re, p.bind fun ds vs H1 s1 r1 p1 => ?_⟩
  have hl := Rps.length r1
  split at p1
  · rename_i hz
    refine ⟨?_, fun a na => p1 _ _ (same_upd na) ⟨a, vs, rfl, SqT.of upd_same, Rps.same r1 (same_upd na)⟩⟩
    have := sizeLine_eq
    omega
  · exact False.elim p1
theorem tF_lst {cs : List CE} (h : tF K G W (cLst cs) σ H Q) : tLst (tEs K G W (cAll cs)) σ H Q := by
  obtain ⟨F, H₀, M, ρ, re, p⟩ := h
  refine ⟨F, H₀, M, ρ, re, p.bind fun ds vs H1 s1 r1 p1 => ?_⟩
  have hl := Rps.length r1
  split at p1
  · rename_i hz
    refine ⟨?_, fun a na => p1 _ _ (same_upd na) (Nw.older s1 (Nw.mk na r1))⟩
    have := sizeLine_eq
    omega
  · exact False.elim p1
/-! slices -/
def tO (K : PySem.W.Frag) (G : Gx) (W : WX) (o : Option CE) : TO := fun σ H Q => tR K G W (fun _ _ (x y : Option Int) => x = y) (optI o) σ H Q
theorem tO_none {Q : Option Int → Hp → Prop} (h : tO K G W none σ H Q) : tNoPart σ H Q := by
  obtain ⟨F, H₀, M, ρ, re, p⟩ := h
  exact p none H (Same.refl H) rfl
theorem tO_some {c : CE} {Q : Option Int → Hp → Prop} (h : tO K G W (some c) σ H Q) : tPart (tB K G W c) σ H Q := by
  obtain ⟨F, H₀, M, ρ, re, p⟩ := h
  refine ⟨F, H₀, M, ρ, re, p.bind fun x v H1 s1 r1 p1 => ?_⟩
  cases x with
  | int i => exact ⟨i, r1, p1 (some i) H1 (Same.refl H1) rfl⟩
  | _ => exact False.elim p1
theorem slD_ok {d : PyData} {l h : Option Int} : (∃ r, slD d l h = .ok r) ∨ slD d l h = .bad := by
  cases d <;> simp [slD]
theorem tF_sl {a : CE} {lo hi : Option CE} (h : tF K G W (cSl a lo hi) σ H Q) : tSl (rSlD K) (tB K G W a) (tO K G W lo) (tO K G W hi) σ H Q := by
  obtain ⟨F, H₀, M, ρ, re, p⟩ := h
  refine ⟨F, H₀, M, ρ, re, p.bind fun x v H1 s1 r1 p1 => ⟨F, H₀, M, ρ, re.same s1, p1.bind fun l l' H2 s2 r2 p2 => ⟨F, H₀, M, ρ, re.same (s1.trans s2), p2.bind fun u u' H3 s3 r3 p3 => ?_⟩⟩⟩
  subst r2 r3
  rcases slD_ok (d := x) (l := l) (h := u) with ⟨r, e⟩ | e
  · rw [e] at p3
    exact ⟨_, x, r, (re.same ((s1.trans s2).trans s3)).trk, r1.same (s2.trans s3), e, fun w H' s' n => p3 w H' s' (n.older ((s1.trans s2).trans s3))⟩
  · rw [e] at p3
    exact False.elim p3
end
end Pv


/-! names, calls, walks -/
namespace Pv
open PySem PySem.Spec L2
open PyProof.Rows hiding St

/-- the names of the block -/
structure NmOk (L : Lc) (X : Cx) : Prop where
  N : X.N = L.N
  nd : L.N.Nodup
  loc : ∀ x, L.nm.lookup x = some .local → X.env.scope.names.lookup x = some .local
  cel : ∀ x, L.nm.lookup x = some .cell → X.env.scope.names.lookup x = some .cell
  fre : ∀ x, L.nm.lookup x = some .free → X.env.scope.names.lookup x = some .cell ∨ X.env.scope.names.lookup x = some .free
  glo : ∀ x, L.nm.lookup x = some .globalImplicit → X.env.kindOf x = some .globalImplicit
  fn : ∀ x, L.nm.lookup x = some .cell → X.fn x = true
def biNames : List Str := ["len", "list", "tuple", "int", "sorted", "sum", "max", "min", "abs", "isinstance", "range", "bool", "str", "dict", "enumerate", "repr", "reversed", "zip", "set"]
def gxOf (G : GI) (mg : Str → Option Value) : Gx := { mg := mg, flds := G.flds }
/-- what a def's promise says -/
def spF (K : PySem.W.Frag) (G : Gx) (Φ : Ph) (np i : Nat) : Sp := fun vs H Q E => vs.length = np ∧ ∃ F ds, Trk F H ∧ Rps K F H ds vs ∧
  match Φ i ds with
  | .ok d => ∀ v H', Same H H' → Rp K F H' d v → Q v H'
  | .exc n es => ∀ cls od H', Same H H' → XR K G F H' n es cls od → E cls od H'
  | .bad => False
/-- the class value that a name tells -/
def ClsOf (G : GI) (mg : Str → Option Value) (t : Str) (cv : Value) : Prop := (G.has t = true ∧ mg t = some cv) ∨ (t ∈ biExc ∧ mg t = none ∧ bootBuiltins t = some cv)
structure ClOk (G : GI) (K : PySem.W.Frag) (mg : Str → Option Value) (n : Str) (C : Addr) : Prop where
  hg : PySem.W.findIn K (.ref C) "__getattribute__" = some (some (.builtin "BaseException.__getattribute__"))
  hk : PySem.W.findIn K (.ref C) "__getattr__" = some none
  hs : PySem.W.subIn K (.ref C) (.type "BaseException") = some true
  hd : PySem.W.hasDictIn K C = true
  ha : PySem.W.findIn K (.ref C) "__class__" = some (some (.builtin "object.__class__"))
  hn : PySem.W.specialIn K (.builtin "object.__class__") "__get__" = some (some (.builtin "getset_descriptor.__get__"))
  ht : PySem.W.takesIn K (.builtin "object.__class__") = some true
  hm : PySem.W.mroIn K C (.type "object") = some true
  fl : ∀ f ∈ G.flds n, PySem.W.findIn K (.ref C) f = some none
  is : ∀ t cv, ClsOf G mg t cv → PySem.W.kitOne K (.ref C) cv = some (decide (t ∈ G.ups n))
  ex : ∀ t cv, ClsOf G mg t cv → PySem.W.exmOne K (.ref C) cv = some (decide (t ∈ G.ups n))
structure GOk (Gr : Gx) (G : GI) (Φ : Ph) (k : Nat) (P : Program) (w : World) (K : PySem.W.Frag) (mg : Str → Option Value) (base : Heap) : Prop where
  bi : ∀ x ∈ biNames, mg x = none
  fns : ∀ i f, G.fns[i]? = some f → ∃ (a : Addr) (fd : FuncData), mg f.name = some (.ref a) ∧ PySem.W.keepIn K (.ref a) = true ∧ Binds K fd f.ps [] ∧ FnOk P w K mg base (L2.CX P w) (k + 2) a fd f.ps (spF K Gr Φ f.ps.length i)
  cls : ∀ n C, G.has n = true → mg n = some (.ref C) → ClOk G K mg n C
  nms : ∀ t, G.clsName t = true → ∃ cv, ClsOf G mg t cv ∧ ((∃ a, cv = .ref a) ∨ ∃ n, cv = .type n)
  mkx : ∀ (X : Cx), X.prog = P → X.w = w → X.K = K → X.mg = mg → X.base = base → Room 2 X.A → ∀ c ∈ G.cls, ∃ C, mg c.name = some (.ref C) ∧ (Gl X c.name → (c.name == ("__debug__" : Str)) = false →
    ∀ {e : Expr} {es : List Expr} {ta : TA} {p pos : Pos}, PA X (e :: es) ta → starEach (e :: es) X.env = (false, eval e X.env) :: starEach es X.env → (backTo pos (starEach es X.env)).any (·.1) = false →
      PMk X (.Call (.Name c.name p) (e :: es) [] pos) (fun σ H Q => ta σ H fun vs H1 => vs.length ≤ 1000 ∧ (c.flds = [] → Q (.ref C) none H1) ∧ (c.flds ≠ [] → vs.length = c.flds.length ∧ ∀ dx, H1 dx = none → Q (.ref C) (some dx) (upd H1 dx (.xd (c.flds.zip vs.reverse))))))
  cons : ∀ x d, G.cons.lookup x = some d → ∃ u v, mg x = some u ∧ RelV v u ∧ ∀ F H, Rp K F H d v
structure EOk (Gr : Gx) (G : GI) (Φ : Ph) (k : Nat) (L : Lc) (X : Cx) (W : WX) : Prop where
  calm : L.calm = true → X.calm = true
  room : L.calm = true → Room (k + 2) X.A
  un : X.A.units + 200 < cLine
  tk : Takes X W
  nm : NmOk L X
  gl : GOk Gr G Φ k X.prog X.w X.K X.mg X.base
  fl : Gr.flds = G.flds
  mg : Gr.mg = X.mg
  sxc : L.calm = true → Gr.sx = none
  sx : ∀ a C od, Gr.sx = some (a, C, od) → ∃ (X0 : Cx) (oe : Obj) (pn : List (Addr × Obj)), X = X0.suite a ((a, oe) :: pn) ∧ Zc (.ref C) od oe ∧ ∃ vs, oe.data = .fields vs

theorem ixOf_at {x : Str} : ∀ {l : List Str} {k i : Nat}, ixOf x l k = some i → k ≤ i ∧ l[i - k]? = some x
  | [], _, _, h => by cases h
  | y :: ys, k, i, h => by
    unfold ixOf at h
    split at h
    · rename_i e
      cases h
      subst e
      exact ⟨Nat.le_refl _, by simp⟩
    · obtain ⟨h1, h2⟩ := ixOf_at h
      refine ⟨by omega, ?_⟩
      have e : i - k = (i - (k + 1)) + 1 := by omega
      rw [e]
      simpa using h2
structure SlotOk (L : Lc) (X : Cx) (x : Str) (i : Nat) : Prop where
  at_ : X.N[i]? = some x
  vis : Vis X.env.scope x
  d1 : (x == ("__debug__" : Str)) = false
  d2 : (x == ("__classdict__" : Str)) = false
theorem slot_ok {L : Lc} {X : Cx} (n : NmOk L X) {x : Str} {i : Nat} (h : L.slot x = some i) : SlotOk L X x i := by
  unfold Lc.slot at h
  have key : ∀ (hv : Vis X.env.scope x), (if x = ("__debug__" : Str) ∨ x = ("__classdict__" : Str) then none else ixOf x L.N 0) = some i → SlotOk L X x i := by
    intro hv h
    split at h
    · cases h
    · rename_i hne
      obtain ⟨_, h2⟩ := ixOf_at h
      refine ⟨by rw [n.N]; simpa using h2, hv, ?_, ?_⟩
      · exact beq_eq_false_iff_ne.mpr fun z => hne (.inl z)
      · exact beq_eq_false_iff_ne.mpr fun z => hne (.inr z)
  split at h
  · exact key (.inl (n.loc x (by assumption))) h
  · exact key (.inr (.inl (n.cel x (by assumption)))) h
  · rcases n.fre x (by assumption) with z | z
    · exact key (.inr (.inl z)) h
    · exact key (.inr (.inr z)) h
  · cases h
structure GlobOk (X : Cx) (x : Str) : Prop where
  gl : Gl X x
  d1 : (x == ("__debug__" : Str)) = false
  nn : x ≠ "__name__"
theorem glob_ok {L : Lc} {X : Cx} (n : NmOk L X) {x : Str} (h : L.glob x = true) : GlobOk X x := by
  unfold Lc.glob at h
  split at h
  · rename_i z
    rw [Bool.and_eq_true, Bool.not_eq_true', Bool.not_eq_true'] at h
    exact ⟨n.glo x z, h.1, fun e => by rw [e] at h; exact absurd h.2 (by decide)⟩
  · cases h
section
variable {Gr : Gx} {G : GI} {Φ : Ph} {k : Nat} {L : Lc} {X : Cx} {W : WX}
theorem re_own {K : PySem.W.Frag} {F M : Addr → Prop} {H₀ H : Hp} {ρ : En} {σ : St} (re : RE K Gr F H₀ M ρ σ H) {i : Nat} {d : PyData} (h : ρ[i]? = some (.dat d true)) : ∃ v, σ[i]? = some (some v) ∧ Rb K (FF F ρ σ) H d v := by
  obtain ⟨ds, a, vs, rfl, e1, e2, r⟩ := re.ow i d h
  exact ⟨_, e1, a, vs, rfl, .inl e2, r⟩
theorem sn_var (ok : EOk Gr G Φ k L X W) {x : Str} {i : Nat} {p : Pos} (h : L.slot x = some i) : PE X (.Name x p) (tE X.K Gr W (cVar i)) := by
  have s := slot_ok ok.nm h
  refine PE.imp (pe_var s.at_ s.vis s.d1 s.d2) fun σ H Q hh => ?_
  obtain ⟨F, H₀, M, ρ, re, q⟩ := hh
  unfold cVar at q
  split at q
  · rename_i d e
    obtain ⟨v, e1, r⟩ := re.pl i d e
    exact ⟨v, e1, q v H (Same.refl H) r⟩
  · exact False.elim q
theorem sn_varB (ok : EOk Gr G Φ k L X W) {x : Str} {i : Nat} {p : Pos} (h : L.slot x = some i) : PE X (.Name x p) (tB X.K Gr W (cVarB i)) := by
  have s := slot_ok ok.nm h
  refine PE.imp (pe_var s.at_ s.vis s.d1 s.d2) fun σ H Q hh => ?_
  obtain ⟨F, H₀, M, ρ, re, q⟩ := hh
  unfold cVarB at q
  split at q
  · rename_i d b e
    cases b with
    | false =>
      obtain ⟨v, e1, r⟩ := re.pl i d e
      exact ⟨v, e1, q v H (Same.refl H) r.rb⟩
    | true =>
      obtain ⟨v, e1, r⟩ := re_own re e
      exact ⟨v, e1, q v H (Same.refl H) r⟩
  · exact False.elim q
theorem sn_con (ok : EOk Gr G Φ k L X W) {x : Str} {d : PyData} {p : Pos} (h : L.glob x = true) (hc : G.cons.lookup x = some d) : PE X (.Name x p) (tE X.K Gr W (cK d)) := by
  have g := glob_ok ok.nm h
  obtain ⟨u, v, hm, r, hr⟩ := ok.gl.cons x d hc
  refine PE.imp (pe_glob g.gl hm r g.d1) fun σ H Q hh => ?_
  obtain ⟨F, H₀, M, ρ, re, q⟩ := hh
  exact q v H (Same.refl H) (hr _ _)
theorem sn_k {e : Expr} {v : V} {d : PyData} (h : PE X e (tC v)) (hr : ∀ F H, Rp X.K F H d v) : PE X e (tE X.K Gr W (cK d)) := by
  refine PE.imp h fun σ H Q hh => ?_
  obtain ⟨F, H₀, M, ρ, re, q⟩ := hh
  exact q v H (Same.refl H) (hr _ _)

/-! ### plain arguments -/
theorem star_cons {e : Expr} {es : List Expr} {env : Env} (h : notStar e = true) : starEach (e :: es) env = (false, eval e env) :: starEach es env := by
  cases e <;> first | rfl | cases h
theorem star_plain {pos : Pos} {env : Env} : ∀ {es : List Expr}, es.all notStar = true → (backTo pos (starEach es env)).any (·.1) = false
  | [], _ => rfl
  | e :: es, h => by
    rw [List.all_cons, Bool.and_eq_true] at h
    rw [star_cons h.1]
    exact star_plain h.2
theorem sn_es_nil : PA X [] (tEs X.K Gr W (cAll [])) := PA.imp pa_nil fun σ H Q => tEs_nil
theorem sn_es_cons {e : Expr} {es : List Expr} {c : CE} {cs : List CE} (hs : notStar e = true) (h1 : PE X e (tE X.K Gr W c)) (h2 : PA X es (tEs X.K Gr W (cAll cs))) : PA X (e :: es) (tEs X.K Gr W (cAll (c :: cs))) :=
  PA.imp (pa_cons h1 h2 (star_cons hs)) fun σ H Q => tEs_cons

/-! ### calls of defs: a list of one's own may be lent -/
def Ra (K : PySem.W.Frag) (ρ : En) : List (Option Nat) → (Addr → Prop) → Hp → List PyData → List V → Prop
  | [], _, _, ds, vs => ds = [] ∧ vs = []
  | o :: os, F, H, ds, vs => ∃ d r v w, ds = d :: r ∧ vs = v :: w ∧ (if ownAny [o] ρ = true then Rb K F H d v else Rp K F H d v) ∧ Ra K ρ os F H r w
def tAs (K : PySem.W.Frag) (G : Gx) (W : WX) (cs : List CE) (os : List (Option Nat)) : TA := fun σ H Q => ∃ F H₀ M ρ, RE K G F H₀ M ρ σ H ∧ Post K G W (Ra K ρ os) σ (FF F ρ σ) H (cAll cs ρ) Q
def tA1 (K : PySem.W.Frag) (G : Gx) (W : WX) (c : CE) (o : Option Nat) : TE := fun σ H Q => ∃ F H₀ M ρ, RE K G F H₀ M ρ σ H ∧ Post K G W (fun F H d v => if ownAny [o] ρ = true then Rb K F H d v else Rp K F H d v) σ (FF F ρ σ) H (c ρ) Q
theorem tAs_nil {K : PySem.W.Frag} {G : Gx} {σ : St} {H : Hp} {Q : List V → Hp → Prop} (h : tAs K G W [] [] σ H Q) : tNil σ H Q := by
  obtain ⟨F, H₀, M, ρ, re, p⟩ := h
  exact p [] H (Same.refl H) ⟨rfl, rfl⟩
theorem tAs_cons {K : PySem.W.Frag} {G : Gx} {σ : St} {H : Hp} {c : CE} {cs : List CE} {o : Option Nat} {os : List (Option Nat)} {Q : List V → Hp → Prop} (h : tAs K G W (c :: cs) (o :: os) σ H Q) : tCons (tA1 K G W c o) (tAs K G W cs os) σ H Q := by
  obtain ⟨F, H₀, M, ρ, re, p⟩ := h
  refine ⟨F, H₀, M, ρ, re, Post.bind (rep2 := fun F H d v => if ownAny [o] ρ = true then Rb K F H d v else Rp K F H d v) p fun x v H1 s1 r1 p1 => ⟨F, H₀, M, ρ, re.same s1, Post.bind (rep2 := Ra K ρ os) p1 fun ys us H2 s2 r2 p2 => ?_⟩⟩
  refine p2 _ H2 (Same.refl H2) ⟨x, ys, v, us, rfl, rfl, ?_, r2⟩
  split at r1
  · rename_i z; rw [if_pos z]; exact r1.same s2
  · rename_i z; rw [if_neg z]; exact r1.same s2
theorem ra_rps {K : PySem.W.Frag} {ρ : En} {F F' : Addr → Prop} {H : Hp} : ∀ {os : List (Option Nat)} {ds : List PyData} {vs : List V}, Ra K ρ os F H ds vs → (∀ a, F' a → F a) → ((∀ a, F' a → V.ref a ∉ vs) ∨ ownAny os ρ = false) → Rps K F' H ds vs
  | [], _, _, ⟨e1, e2⟩, _, _ => by subst e1 e2; rfl
  | o :: os, _, _, ⟨d, r, v, w, e1, e2, h1, h2⟩, hF, hn => by
    subst e1 e2
    have hn' : (∀ a, F' a → V.ref a ∉ w) ∨ ownAny os ρ = false := by
      rcases hn with hn | hn
      · exact .inl fun a ha z => hn a ha (List.mem_cons_of_mem _ z)
      · refine .inr ?_
        unfold ownAny at hn ⊢
        rw [List.any_cons, Bool.or_eq_false_iff] at hn
        exact hn.2
    refine ⟨v, w, rfl, ?_, ra_rps h2 hF hn'⟩
    split at h1
    · rename_i z
      rcases hn with hn | hn
      · cases d with
        | list ds =>
          obtain ⟨a, vs, rfl, q, r⟩ := h1
          exact ⟨a, vs, rfl, fun z => hn a z List.mem_cons_self, q, r.less hF⟩
        | none => exact Rp.less (K := K) (F := F) (d := .none) h1 hF
        | bool _ => exact Rp.less (K := K) (F := F) (d := .bool _) h1 hF
        | int _ => exact Rp.less (K := K) (F := F) (d := .int _) h1 hF
        | str _ => exact Rp.less (K := K) (F := F) (d := .str _) h1 hF
        | tuple _ => exact Rp.less (K := K) (F := F) (d := .tuple _) h1 hF
        | dict _ => exact False.elim h1
      · unfold ownAny at hn z
        rw [List.any_cons, Bool.or_eq_false_iff] at hn
        rw [List.any_cons, List.any_nil, Bool.or_false] at z
        rw [z] at hn
        exact absurd hn.1 (by simp)
    · exact h1.less hF
theorem ra_len {K : PySem.W.Frag} {ρ : En} {F : Addr → Prop} {H : Hp} : ∀ {os : List (Option Nat)} {ds : List PyData} {vs : List V}, Ra K ρ os F H ds vs → vs.length = os.length
  | [], _, _, ⟨e1, e2⟩ => by subst e1 e2; rfl
  | o :: os, _, _, ⟨d, r, v, w, e1, e2, h1, h2⟩ => by subst e2; simp [ra_len h2]
theorem tE_call {K : PySem.W.Frag} {Gx : Gx} {W : WX} {σ : St} {H : Hp} {Q : VK} {f np : Nat} {cs : List CE} {os : List (Option Nat)} (hn : os.length = np) (h : tE K Gx W (cCall Φ f cs os) σ H Q) :
    tCallS (spF K Gx Φ np f) (WE W) (tAs K Gx W cs os) σ H Q := by
  obtain ⟨F, H₀, M, ρ, re, p⟩ := h
  refine ⟨F, H₀, M, ρ, re, Post.bind (rep2 := Ra K ρ os) p fun ds vs H1 s1 r1 p1 => ?_⟩
  have re1 := re.same s1
  refine ⟨by rw [ra_len r1, hn], ?_⟩
  cases ho : ownAny os ρ with
  | false =>
    rw [ho] at p1
    refine ⟨FF F ρ σ, ds, re1.trk, ra_rps r1 (fun _ z => z) (.inr ho), ?_⟩
    cases hr : Φ f ds with
    | ok d => rw [hr] at p1; exact p1
    | exc n es => rw [hr] at p1; exact p1
    | bad => rw [hr] at p1; exact p1
  | true =>
    rw [ho] at p1
    refine ⟨fun a => FF F ρ σ a ∧ V.ref a ∉ vs, ds, fun a ha => re1.trk a ha.1, ra_rps r1 (fun _ z => z.1) (.inl fun a ha => ha.2), ?_⟩
    cases hr : Φ f ds with
    | ok d =>
      rw [hr] at p1
      simp only [guardF, if_true] at p1
      split at p1
      · rename_i z
        exact fun v H' s q => p1 v H' s (Rp.flat d v z q)
      · exact False.elim p1
    | exc n es =>
      rw [hr] at p1
      simp only [guardF, if_true] at p1
      split at p1
      · rename_i z
        refine fun cls od H' s q => p1 cls od H' s ?_
        obtain ⟨C, h1, h2, h3⟩ := q
        refine ⟨C, h1, h2, ?_⟩
        rcases h3 with h3 | ⟨h4, dx, ws, h5, h6, h7, h8⟩
        · exact .inl h3
        · exact .inr ⟨h4, dx, ws, h5, h6, h7, Rps.flat es ws z h8⟩
      · exact False.elim p1
    | bad => rw [hr] at p1; exact p1
theorem fnIx_at {x : Str} : ∀ {l : List FnI} {k i : Nat} {f : FnI}, fnIx x l k = some (i, f) → k ≤ i ∧ l[i - k]? = some f ∧ f.name = x
  | [], _, _, _, h => by cases h
  | g :: gs, k, i, f, h => by
    unfold fnIx at h
    split at h
    · rename_i e
      cases h
      exact ⟨Nat.le_refl _, by simp, e.symm⟩
    · obtain ⟨h1, h2, h3⟩ := fnIx_at h
      refine ⟨by omega, ?_, h3⟩
      have e : i - k = (i - (k + 1)) + 1 := by omega
      rw [e]
      simpa using h2
theorem sn_call (ok : EOk Gr G Φ k L X W) (hcalm : L.calm = true) {x : Str} {i : Nat} {f : FnI} {e : Expr} {es : List Expr} {cs : List CE} {os : List (Option Nat)} {p pos : Pos} (hg : L.glob x = true) (hf : fnIx x G.fns 0 = some (i, f)) (hl : (e :: es).length = f.ps.length)
    (hs : (e :: es).all notStar = true) (hos : os.length = (e :: es).length) (ha : PA X (e :: es) (tAs X.K Gr W cs os)) : PE X (.Call (.Name x p) (e :: es) [] pos) (tE X.K Gr W (cCall Φ i cs os)) := by
  obtain ⟨_, h2, h3⟩ := fnIx_at hf
  obtain ⟨a, fd, hm, hk, hb, fo⟩ := ok.gl.fns i f (by simpa using h2)
  subst h3
  have g := glob_ok ok.nm hg
  rw [List.all_cons, Bool.and_eq_true] at hs
  exact PE.imp (pe_callS fo (ok.room hcalm) g.gl hm hk hb (fun σ => passAt ok.tk σ) ha g.d1 (star_cons hs.1) (star_plain hs.2)) fun σ H Q => tE_call (by omega)
end
end Pv


/-! walks, comprehensions, isinstance -/
namespace Pv
open PySem PySem.Spec L2
open PyProof.Rows hiding St

/-- what is not F's stays, the tuples too -/
theorem kp_of_stay {F : Addr → Prop} {H H' : Hp} (s : Stay F H H') (ht : Trk F H) : Kp F H H' := by
  intro a o h c
  refine s a o ?_ h
  intro z
  have m := ht a z
  rw [h] at m
  rcases c with c | ⟨ys, c⟩ | ⟨u, ys, c⟩
  · exact c z
  · subst c; exact m
  · subst c; exact m

/-! ### the walks -/
/-- Fs: what may change meanwhile; Fi: what the items do not hold -/
structure ItOk (K : PySem.W.Frag) (Fs Fi : Addr → Prop) (H : Hp) (J : It) (ds : List PyData) : Prop where
  go : ∀ (i : Nat) (H' : Hp), i < ds.length → Stay Fs H H' → J.go i H'
  yld : ∀ (B : Addr → Prop), (∀ a, B a → Fi a ∨ H a = none) → ∀ (i : Nat) (H' H'' : Hp) (x : V) (d : PyData), Stay Fs H H' → ds[i]? = some d → J.yld i H' x H'' → Same H' H'' ∧ Rp K B H'' d x
  stop : ∀ (H' : Hp), Stay Fs H H' → J.stop ds.length H'
def tIt (K : PySem.W.Frag) (G : Gx) (W : WX) (lent : Bool) (c : CI) : TI := fun σ H Rr => ∃ F H₀ M ρ, RE K G F H₀ M ρ σ H ∧
  match c ρ with
  | .ok ds => ∀ J H', Same H H' → ds.length ≤ sizeLine → ItOk K (if lent = true then fun _ => False else FF F ρ σ) (FF F ρ σ) H' J ds → Rr J H'
  | .exc n ds => ∀ cls od H', Same H H' → XR K G (FF F ρ σ) H' n ds cls od → W cls od σ H'
  | .bad => False
section
variable {K : PySem.W.Frag} {Fs Fi : Addr → Prop} {H : Hp}
theorem it_item {H' : Hp} {B : Addr → Prop} {d : PyData} {x : V} (hsi : ∀ a, Fs a → Fi a) (tr : Trk Fs H) (hB : ∀ a, B a → Fi a ∨ H a = none) (s : Stay Fs H H') (r : Rp K Fi H d x) : Rp K B H' d x :=
  Rp.keep (F := fun a => Fi a ∨ H a = none) (fun b o ho c => by
    refine kp_of_stay s tr b o ho ?_
    rcases c with c | c
    · exact .inl fun z => c (.inl (hsi b z))
    · exact .inr c) hB d x (Rp.grow (fun b z => z) d x r)
theorem it_list {a : Addr} {vs : List V} {ds : List PyData} (q : Rd H a (.lst vs)) (nf : ¬ Fs a) (r : Rps K Fi H ds vs) (hsi : ∀ a, Fs a → Fi a) (tr : Trk Fs H) : ItOk K Fs Fi H (Itl K a) ds where
  go := fun i H' hi s => by
    have hl := r.length
    exact ⟨vs, vs[i]'(by omega), .inl (Rd.stay q fun o => s a o nf), by simp [show i < vs.length by omega]⟩
  yld := fun B hB i H' H'' x d s hd y => by
    obtain ⟨e, y⟩ := y
    subst e
    have e := y vs (.inl (Rd.stay q fun o => s a o nf))
    obtain ⟨v, e2, rv⟩ := r.get hd
    rw [e] at e2
    cases e2
    exact ⟨Same.refl _, it_item hsi tr hB s rv⟩
  stop := fun H' s => ⟨vs, .inl (Rd.stay q fun o => s a o nf), by rw [r.length]; exact Nat.le_refl _⟩
theorem it_tuple {a : Addr} {vs : List V} {ds : List PyData} (q : SqT K H a vs) (r : Rps K Fi H ds vs) (hsi : ∀ a, Fs a → Fi a) (tr : Trk Fs H) : ItOk K Fs Fi H (Itt K a) ds := by
  have st : ∀ H', Stay Fs H H' → SqT K H' a vs := fun H' s => SqT.kp (kp_of_stay s tr) q
  exact {
    go := fun i H' hi s => by
      have hl := r.length
      exact ⟨vs, vs[i]'(by omega), st H' s, by simp [show i < vs.length by omega]⟩
    yld := fun B hB i H' H'' x d s hd y => by
      obtain ⟨e, y⟩ := y
      subst e
      have e := y vs (st _ s)
      obtain ⟨v, e2, rv⟩ := r.get hd
      rw [e] at e2
      cases e2
      exact ⟨Same.refl _, it_item hsi tr hB s rv⟩
    stop := fun H' s => ⟨vs, st H' s, by rw [r.length]; exact Nat.le_refl _⟩ }
theorem it_str (z : Str) : ItOk K Fs Fi H (Its z) (z.cps.toList.map fun c => .str ⟨#[c]⟩) where
  go := fun i H' hi s => by
    show i < z.cps.size
    simpa using hi
  yld := fun B hB i H' H'' x d s hd y => by
    obtain ⟨e, c, hc, e2⟩ := y
    subst e e2
    refine ⟨Same.refl _, ?_⟩
    rw [List.getElem?_map] at hd
    have : z.cps.toList[i]? = some c := by simpa using hc
    rw [this] at hd
    cases hd
    rfl
  stop := fun H' s => by
    show z.cps.size ≤ _
    simp
theorem it_range (a b : Int) : ItOk K Fs Fi H (Itr a (b - a).toNat) (rangeL a b) where
  go := fun i H' hi s => by
    show i < (b - a).toNat
    simpa [rangeL] using hi
  yld := fun B hB i H' H'' x d s hd y => by
    obtain ⟨e, e2⟩ := y
    subst e e2
    refine ⟨Same.refl _, ?_⟩
    unfold rangeL at hd
    rw [List.getElem?_map] at hd
    cases hr : (List.range (b - a).toNat)[i]? with
    | none => rw [hr] at hd; cases hd
    | some j =>
      rw [hr] at hd
      cases hd
      obtain ⟨h1, h2⟩ := List.getElem?_eq_some_iff.mp hr
      rw [List.getElem_range] at h2
      subst h2
      rfl
  stop := fun H' s => by
    show (b - a).toNat ≤ _
    simp [rangeL]
end
section
variable {Gr : Gx} {G : GI} {Φ : Ph} {k : Nat} {L : Lc} {X : Cx} {W : WX} {tg : Expr}
/-- a value that is walked: at its iterator -/
theorem pi_any {F Fs : Addr → Prop} {pins : List (Addr × Obj)} {σ : St} {H : Hp} {s : Shared} {E : Value → Shared → Prop} {Rr : It → Hp → Prop} {d : PyData} {ds : List PyData} {x : V} {v : Value} (I : L2.Inv X pins σ H s) (rx : RelV x v) (hb : Rb X.K F H d x) (hi : itD d = .ok ds)
    (hsi : ∀ a, Fs a → F a) (tr : Trk Fs H) (hl : ∀ a, x = .ref a → (∃ es, d = .list es) → ¬ Fs a) (q : ∀ J, ds.length ≤ sizeLine → ItOk X.K Fs F H J ds → Rr J H) : wpAny (model X.prog X.w) X.A (pyIter v) (PIE X pins σ tg Rr) E s := by
  cases d with
  | list es =>
    cases hi
    obtain ⟨a, vs, rfl, q1, r1⟩ := hb
    cases rx
    obtain ⟨its, rv, p, hz⟩ := I.list (.inl q1)
    exact wpAny_pyIter_list p.isList (pi_one (tk := s.toks) I _ (turn_list a _) ⟨_, Heap.get?_push_size _ rfl, rfl, rfl⟩ (q _ (by rw [r1.length]; exact hz) (it_list q1 (hl a rfl ⟨_, rfl⟩) r1 hsi tr)))
  | tuple es =>
    cases hi
    obtain ⟨a, vs, rfl, q1, r1⟩ := hb
    cases rx
    obtain ⟨its, rv, p, hz⟩ := I.tuple q1
    exact wpAny_pyIter_tuple (show s.heap.IsTuple a its.toArray from p) (pi_one (tk := s.toks) I _ (turn_tuple a _) ⟨_, Heap.get?_push_size _ rfl, rfl, rfl⟩ (q _ (by rw [r1.length]; exact hz) (it_tuple q1 r1 hsi tr)))
  | str z =>
    simp only [itD] at hi
    split at hi
    · rename_i hz
      cases hi
      cases rd_strs hb
      obtain ⟨t, rfl⟩ := rx
      have hq := q _ (by
        have := sizeLine_eq
        have : z.length = z.cps.size := rfl
        simp only [List.length_map, Array.length_toList]
        omega) (it_str z)
      cases ha : z.cps.all (· < 128)
      · exact wpAny_pyIter_wide ha (pi_one (tk := s.toks) I _ (turn_str _ z t "str_iterator" (.inr rfl)) ⟨_, Heap.get?_push_size _ rfl, rfl, rfl⟩ hq)
      · exact wpAny_pyIter_ascii ha (pi_one (tk := s.toks) I _ (turn_str _ z t "str_ascii_iterator" (.inl rfl)) ⟨_, Heap.get?_push_size _ rfl, rfl, rfl⟩ hq)
    · cases hi
  | none => cases hi
  | bool _ => cases hi
  | int _ => cases hi
  | dict _ => cases hi
theorem tIt_E {c : CE} {σ : St} {H : Hp} {Rr : It → Hp → Prop} (h : tIt X.K Gr W false (cItE c) σ H Rr) :
    tE X.K Gr W c σ H fun x H1 => ∃ F Fs d ds, Rb X.K F H1 d x ∧ itD d = .ok ds ∧ (∀ a, Fs a → F a) ∧ Trk Fs H1 ∧ (∀ a, x = .ref a → (∃ es, d = .list es) → ¬ Fs a) ∧ ∀ J, ds.length ≤ sizeLine → ItOk X.K Fs F H1 J ds → Rr J H1 := by
  obtain ⟨F, H₀, M, ρ, re, p⟩ := h
  refine ⟨F, H₀, M, ρ, re, ?_⟩
  unfold cItE at p
  cases hc : c ρ with
  | ok d =>
    rw [hc] at p
    intro x H1 s1 r1
    cases hi : itD d with
    | ok ds =>
      rw [R.bind_ok, hi] at p
      refine ⟨_, FF F ρ σ, d, ds, r1.rb, hi, fun _ z => z, (re.same s1).trk, fun a e ⟨es, z⟩ => ?_, fun J hl io => p J H1 s1 hl io⟩
      subst z
      obtain ⟨b, vs, e2, nf, _⟩ := r1
      rw [e] at e2; cases e2
      exact nf
    | exc n es => rw [R.bind_ok, hi] at p; exact False.elim p
    | bad => rw [R.bind_ok, hi] at p; exact False.elim p
  | exc n es => rw [hc] at p; exact p
  | bad => rw [hc] at p; exact p
theorem tIt_B {c : CE} {σ : St} {H : Hp} {Rr : It → Hp → Prop} (h : tIt X.K Gr W true (cItE c) σ H Rr) :
    tB X.K Gr W c σ H fun x H1 => ∃ F Fs d ds, Rb X.K F H1 d x ∧ itD d = .ok ds ∧ (∀ a, Fs a → F a) ∧ Trk Fs H1 ∧ (∀ a, x = .ref a → (∃ es, d = .list es) → ¬ Fs a) ∧ ∀ J, ds.length ≤ sizeLine → ItOk X.K Fs F H1 J ds → Rr J H1 := by
  obtain ⟨F, H₀, M, ρ, re, p⟩ := h
  refine ⟨F, H₀, M, ρ, re, ?_⟩
  unfold cItE at p
  cases hc : c ρ with
  | ok d =>
    rw [hc] at p
    intro x H1 s1 r1
    cases hi : itD d with
    | ok ds =>
      rw [R.bind_ok, hi] at p
      exact ⟨_, fun _ => False, d, ds, r1, hi, fun _ z => False.elim z, fun _ z => False.elim z, fun a e _ z => z, fun J hl io => p J H1 s1 hl io⟩
    | exc n es => rw [R.bind_ok, hi] at p; exact False.elim p
    | bad => rw [R.bind_ok, hi] at p; exact False.elim p
  | exc n es => rw [hc] at p; exact p
  | bad => rw [hc] at p; exact p
theorem sn_itE {e : Expr} {c : CE} (he : PE X e (tE X.K Gr W c)) : PI X tg e (tIt X.K Gr W false (cItE c)) := by
  refine ⟨fun pins s σ H Rr I h => ?_⟩
  refine thn (he.run pins s σ H _ I (tIt_E h)) fun v s1 ⟨x, H1, I1, r1, F, Fs, d, ds, h1, h2, h3, h4, h5, h6⟩ => ?_
  exact pi_any I1 r1 h1 h2 h3 h4 h5 h6
theorem sn_itB {e : Expr} {c : CE} (he : PE X e (tB X.K Gr W c)) : PI X tg e (tIt X.K Gr W true (cItE c)) := by
  refine ⟨fun pins s σ H Rr I h => ?_⟩
  refine thn (he.run pins s σ H _ I (tIt_B h)) fun v s1 ⟨x, H1, I1, r1, F, Fs, d, ds, h1, h2, h3, h4, h5, h6⟩ => ?_
  exact pi_any I1 r1 h1 h2 h3 h4 h5 h6
theorem intB_ok {d : PyData} {i : Int} (h : intB d = .ok i) : d = .int i ∧ -(2 ^ 62) ≤ i ∧ i < 2 ^ 62 := by
  cases d with
  | int j =>
    simp only [intB] at h
    split at h
    · rename_i z; cases h; exact ⟨rfl, z⟩
    · cases h
  | _ => cases h
theorem rangeL_len (a b : Int) : (rangeL a b).length = (b - a).toNat := by simp [rangeL]
theorem sn_range1 (ok : EOk Gr G Φ k L X W) {a : Expr} {c : CE} {p pos : Pos} {lent : Bool} (hg : L.glob "range" = true) (hs : notStar a = true) (ha : PE X a (tB X.K Gr W c)) : PI X tg (.Call (.Name "range" p) [a] [] pos) (tIt X.K Gr W lent (cRange1 c)) := by
  have g := glob_ok ok.nm hg
  refine ⟨fun pins s σ H Rr I h => ?_⟩
  refine (pi_range1 (tg := tg) g.gl (ok.gl.bi _ (by decide)) (pa_cons ha pa_nil (star_cons hs)) (by rw [star_cons hs]; rfl)).run pins s σ H Rr I ?_
  obtain ⟨F, H₀, M, ρ, re, q⟩ := h
  refine ⟨F, H₀, M, ρ, re, ?_⟩
  unfold cRange1 at q
  cases hc : c ρ with
  | ok d =>
    rw [hc] at q
    intro x H1 s1 r1
    cases hi : intB d with
    | ok i =>
      rw [R.bind_ok, hi] at q
      obtain ⟨rfl, h1, h2⟩ := intB_ok hi
      cases rd_ints r1
      simp only [quiet, R.bind_ok] at q
      split at q
      · rename_i o dd hz
        split at hz
        · rename_i hz2
          cases hz
          refine ⟨i, rfl, h1, h2, ?_⟩
          have e : (i - 0).toNat = i.toNat := by rw [Int.sub_zero]
          rw [← e]
          refine q _ H1 s1 ?_ (it_range 0 i)
          have := sizeLine_eq
          rw [rangeL_len]; omega
        · cases hz
      · rename_i hz; split at hz <;> cases hz
      · exact False.elim q
    | exc n es => rw [R.bind_ok, hi] at q; exact False.elim q
    | bad => rw [R.bind_ok, hi] at q; exact False.elim q
  | exc n es => rw [hc] at q; exact q
  | bad => rw [hc] at q; exact q
end
end Pv


namespace Pv
open PySem PySem.Spec L2
open PyProof.Rows hiding St
section
variable {Gr : Gx} {G : GI} {Φ : Ph} {k : Nat} {L : Lc} {X : Cx} {W : WX} {tg : Expr}
theorem sn_range2 (ok : EOk Gr G Φ k L X W) {a b : Expr} {c c' : CE} {p pos : Pos} {lent : Bool} (hg : L.glob "range" = true) (hs : notStar a = true) (hs' : notStar b = true) (ha : PE X a (tB X.K Gr W c)) (hb : PE X b (tB X.K Gr W c')) :
    PI X tg (.Call (.Name "range" p) [a, b] [] pos) (tIt X.K Gr W lent (cRange2 c c')) := by
  have g := glob_ok ok.nm hg
  refine ⟨fun pins s σ H Rr I h => ?_⟩
  refine (pi_range2 (tg := tg) g.gl (ok.gl.bi _ (by decide)) (pa_cons ha (pa_cons hb pa_nil (star_cons hs')) (star_cons hs)) (by rw [star_cons hs, star_cons hs']; rfl) (by rw [star_cons hs']; rfl)).run pins s σ H Rr I ?_
  obtain ⟨F, H₀, M, ρ, re, q⟩ := h
  refine ⟨F, H₀, M, ρ, re, ?_⟩
  unfold cRange2 at q
  cases hc : c ρ with
  | ok d =>
    rw [hc] at q
    intro x H1 s1 r1
    refine ⟨F, H₀, M, ρ, re.same s1, ?_⟩
    rw [R.bind_ok] at q
    cases hc' : c' ρ with
    | ok e =>
      rw [hc'] at q
      intro y H2 s2 r2
      rw [R.bind_ok] at q
      cases hi : intB d with
      | ok i =>
        cases hj : intB e with
        | ok j =>
          rw [hi, hj] at q
          obtain ⟨rfl, h1, h2⟩ := intB_ok hi
          obtain ⟨rfl, h3, h4⟩ := intB_ok hj
          cases rd_ints r1
          cases rd_ints r2
          simp only [quiet, R.bind_ok] at q
          split at q
          · rename_i o dd hz
            split at hz
            · cases hz
              refine ⟨i, j, rfl, ⟨h1, h2, h3, h4⟩, ?_⟩
              refine q _ H2 (s1.trans s2) ?_ (it_range i j)
              have := sizeLine_eq
              rw [rangeL_len]; omega
            · cases hz
          · rename_i hz; split at hz <;> cases hz
          · exact False.elim q
        | exc n es => rw [hi, hj] at q; exact False.elim q
        | bad => rw [hi, hj] at q; exact False.elim q
      | exc n es => rw [hi] at q; exact False.elim q
      | bad => rw [hi] at q; exact False.elim q
    | exc n es => rw [hc'] at q; exact fun cls od H' s => q cls od H' (s1.trans s)
    | bad => rw [hc'] at q; exact q
  | exc n es => rw [hc] at q; exact q
  | bad => rw [hc] at q; exact q

/-! ### isinstance -/
def isTyN (t : String) : Bool := t == "int" || t == "bool" || t == "str" || t == "list" || t == "tuple" || t == "dict"
theorem kit_name {s t : String} (hs : s = "NoneType" ∨ s = "bool" ∨ s = "int" ∨ s = "str" ∨ s = "list" ∨ s = "tuple") (ht : isTyN t = true) : kitB s t = some ((s == t) || (t == "int" && s == "bool")) := by
  unfold isTyN at ht
  simp only [Bool.or_eq_true, beq_iff_eq] at ht
  rcases hs with rfl | rfl | rfl | rfl | rfl | rfl <;> (rcases ht with ((((rfl | rfl) | rfl) | rfl) | rfl) | rfl) <;> decide +kernel
theorem tyD_in (d : PyData) (nd : noDic d = true) : tyD d = "NoneType" ∨ tyD d = "bool" ∨ tyD d = "int" ∨ tyD d = "str" ∨ tyD d = "list" ∨ tyD d = "tuple" := by
  cases d <;> first | (cases nd; done) | skip
  all_goals simp [tyD]
theorem kit_data {K : PySem.W.Frag} (d : PyData) {t : String} (ht : isTyN t = true) (nd : noDic d = true) : PySem.W.kitOne K (.type (tyD d)) (.type t) = some ((tyD d == t) || (t == "int" && tyD d == "bool")) :=
  kit_ty (kit_name (tyD_in d nd) ht)
theorem kitAny_data {K : PySem.W.Frag} (d : PyData) (nd : noDic d = true) : ∀ {ts : List String}, ts.all isTyN = true → PySem.W.kitAny K (.type (tyD d)) (ts.map Value.type) = some (ts.any fun t => (tyD d == t) || (t == "int" && tyD d == "bool"))
  | [], _ => rfl
  | t :: ts, h => by
    rw [List.all_cons, Bool.and_eq_true] at h
    have e := kit_data (K := K) d h.1 nd
    have r := kitAny_data (K := K) d nd h.2
    rw [List.map_cons, List.any_cons]
    unfold PySem.W.kitAny
    rw [e]
    cases (tyD d == t) || (t == "int" && tyD d == "bool") with
    | true => rfl
    | false => exact r
theorem ty_data {K : PySem.W.Frag} {F : Addr → Prop} {H : Hp} {d : PyData} {x : V} (h : Rb K F H d x) : TyX K H x (.type (tyD d)) := by
  cases d with
  | none => cases (show x = .non from h); exact .base .non
  | bool b => cases (show x = .bl b from h); exact .base (.bl b)
  | int b => cases (show x = .int b from h); exact .base (.int b)
  | str b => cases (show x = .str b from h); exact .base (.str b)
  | list ds =>
    obtain ⟨a, vs, rfl, q, _⟩ := h
    rcases q with q | ⟨o, q⟩
    · exact .base (.lst q)
    · exact .base (.frz q)
  | tuple ds =>
    obtain ⟨a, vs, rfl, q, _⟩ := h
    rcases q with (q | ⟨o, q⟩) | ⟨o, its, n, q, c, _⟩
    · exact .base (.tup q)
    · exact .fTuple q
    · exact .kTuple q c
  | dict _ => exact False.elim h
theorem isi1 {t : String} (ht : isTyN t = true) : CallR X (.builtin "isinstance") (fun xs H Q => ∃ x, xs = [x, .ty t] ∧ rD1 X.K (isiD [t]) x H Q) := by
  intro pins s σ H xs us Q I rs h
  obtain ⟨x, rfl, F, d, r, tr, hd, hg, q⟩ := h
  cases hg
  refine call_isi pins s σ H _ us Q I rs ⟨x, .ty t, _, .type t, _, rfl, .ty t, ty_data hd, kit_data d ht hd.noDic, ?_⟩
  have e : ([t].any fun t => (tyD d == t) || (t == "int" && tyD d == "bool")) = ((tyD d == t) || (t == "int" && tyD d == "bool")) := by simp
  rw [e] at q
  exact q _ _ (Same.refl H) rfl
theorem clsv_all : ∀ ts : List String, Paired ClsV (ts.map V.ty) (ts.map Value.type)
  | [] => .nil
  | t :: ts => .cons (.ty t) (clsv_all ts)
theorem isiN {ts : List String} (ht : ts.all isTyN = true) : CallR X (.builtin "isinstance") (fun xs H Q => ∃ x p, xs = [x, .ref p] ∧ H p = some (.tup (ts.map V.ty)) ∧ rD1 X.K (isiD ts) x H Q) := by
  intro pins s σ H xs us Q I rs h
  obtain ⟨x, p, rfl, hp, F, d, r, tr, hd, hg, q⟩ := h
  cases hg
  exact call_isiT pins s σ H _ us Q I rs ⟨x, p, _, _, _, _, rfl, hp, clsv_all ts, ty_data hd, kitAny_data d hd.noDic ht, q _ _ (Same.refl H) rfl⟩
theorem tyName_ok {x : Str} {t : String} (h : tyName x = some t) : isTyN t = true ∧ x ∈ biNames ∧ bootBuiltins x = some (.type t) := by
  unfold tyName at h
  split at h
  · rename_i e; subst e; cases h; exact ⟨rfl, by decide, boot_int⟩
  split at h
  · rename_i e; subst e; cases h; exact ⟨rfl, by decide, by decide +kernel⟩
  split at h
  · rename_i e; subst e; cases h; exact ⟨rfl, by decide, by decide +kernel⟩
  split at h
  · rename_i e; subst e; cases h; exact ⟨rfl, by decide, by decide +kernel⟩
  split at h
  · rename_i e; subst e; cases h; exact ⟨rfl, by decide, by decide +kernel⟩
  split at h
  · rename_i e; subst e; cases h; exact ⟨rfl, by decide, by decide +kernel⟩
  · cases h
def tTys (ts : List String) : TA := fun _ H Q => Q (ts.map V.ty) H
theorem tysOf_ok (ok : EOk Gr G Φ k L X W) {e : Expr} {ts : List String} (h : tysOf L e = some ts) : ∃ t, ts = [t] ∧ isTyN t = true ∧ notStar e = true ∧ PE X e (tC (.ty t)) := by
  unfold tysOf at h
  split at h
  · split at h
    · rename_i x p hg
      cases hn : tyName x with
      | none => rw [hn] at h; cases h
      | some t =>
        rw [hn] at h
        cases h
        obtain ⟨h1, h2, h3⟩ := tyName_ok hn
        have g := glob_ok ok.nm hg
        exact ⟨t, rfl, h1, rfl, pe_bltn g.gl (ok.gl.bi _ h2) h3 rfl g.nn g.d1⟩
    · cases h
  · cases h
theorem tys_pa (ok : EOk Gr G Φ k L X W) : ∀ {es : List Expr} {ls : List (List String)}, es.mapM (tysOf L) = some ls → ls.flatten.all isTyN = true ∧ PA X es (tTys ls.flatten)
  | [], ls, h => by
    cases h
    exact ⟨rfl, PA.imp pa_nil fun σ H Q q => q⟩
  | e :: es, ls, h => by
    rw [List.mapM_cons] at h
    cases h1 : tysOf L e with
    | none => rw [h1] at h; cases h
    | some ts =>
      rw [h1] at h
      cases h2 : es.mapM (tysOf L) with
      | none => rw [h2] at h; cases h
      | some ls' =>
        rw [h2] at h
        cases h
        obtain ⟨t, rfl, a1, a2, a3⟩ := tysOf_ok ok h1
        obtain ⟨b1, b2⟩ := tys_pa ok h2
        refine ⟨?_, PA.imp (pa_cons a3 b2 (star_cons a2)) fun σ H Q q => q⟩
        rw [List.flatten_cons, List.all_append, b1, Bool.and_true]
        simp [a1]
theorem sn_isi1 (ok : EOk Gr G Φ k L X W) {a b : Expr} {c : CE} {ts : List String} {p pos : Pos} (hg : L.glob "isinstance" = true) (hs : notStar a = true) (ha : PE X a (tB X.K Gr W c)) (hb : tysOf L b = some ts) : PE X (.Call (.Name "isinstance" p) [a, b] [] pos) (tE X.K Gr W (c1 (isiD ts) c)) := by
  obtain ⟨t, rfl, a1, a2, a3⟩ := tysOf_ok ok hb
  have g := glob_ok ok.nm hg
  refine PE.imp (pe_callB (isi1 a1) g.gl (ok.gl.bi _ (by decide)) (by decide +kernel) (pa_cons ha (pa_cons a3 pa_nil (star_cons a2)) (star_cons hs)) g.nn g.d1 (star_cons hs) (by rw [star_cons a2]; rfl)) fun σ H Q h => ?_
  obtain ⟨F, H₀, M, ρ, re, q⟩ := tF_c1 (tE_F h)
  exact ⟨F, H₀, M, ρ, re, q.weak (fun _ _ _ _ z => z) |> fun z => by
    cases hc : c ρ with
    | ok d => rw [hc] at z; exact fun v H' s r => ⟨v, rfl, z v H' s r⟩
    | exc n es => rw [hc] at z; exact z
    | bad => rw [hc] at z; exact z⟩
theorem sn_isiN (ok : EOk Gr G Φ k L X W) {a : Expr} {es : List Expr} {c : CE} {ls : List (List String)} {p pos tpos : Pos} {kk : Nat} (hg : L.glob "isinstance" = true) (hs : notStar a = true) (ha : PE X a (tB X.K Gr W c)) (hb : es.mapM (tysOf L) = some ls) (hz : es.length ≤ 100) :
    PE X (.Call (.Name "isinstance" p) [a, .Tuple es kk tpos] [] pos) (tE X.K Gr W (c1 (isiD ls.flatten) c)) := by
  obtain ⟨b1, b2⟩ := tys_pa ok hb
  have g := glob_ok ok.nm hg
  refine PE.imp (pe_callB (isiN b1) g.gl (ok.gl.bi _ (by decide)) (by decide +kernel) (pa_cons ha (pa_cons (pe_tup b2) pa_nil) (star_cons hs)) g.nn g.d1 (star_cons hs) rfl) fun σ H Q h => ?_
  obtain ⟨F, H₀, M, ρ, re, q⟩ := h
  refine ⟨F, H₀, M, ρ, re, q.bind fun d v H1 s1 r1 p1 => ⟨?_, fun pp np => ⟨v, pp, rfl, upd_same, ?_⟩⟩⟩
  · rw [List.length_map]
    have : ls.flatten.length ≤ es.length := by
      have : ∀ {es : List Expr} {ls : List (List String)}, es.mapM (tysOf L) = some ls → ls.flatten.length ≤ es.length := by
        intro es
        induction es with
        | nil => intro ls h; cases h; simp
        | cons e es ih =>
          intro ls h
          rw [List.mapM_cons] at h
          cases h1 : tysOf L e with
          | none => rw [h1] at h; cases h
          | some ts =>
            rw [h1] at h
            cases h2 : es.mapM (tysOf L) with
            | none => rw [h2] at h; cases h
            | some ls' =>
              rw [h2] at h
              cases h
              obtain ⟨t, rfl, _⟩ := tysOf_ok ok h1
              have := ih h2
              simp only [List.flatten_cons, List.length_append, List.length_cons, List.length_nil]
              omega
      exact this hb
    have := sizeLine_eq
    omega
  · have r2 := Rb.same r1 (same_upd (o := .tup (ls.flatten.map V.ty)) np)
    exact ⟨_, d, _, (re.same (s1.trans (same_upd np))).trk, r2, rfl, fun w H' s' n => p1 w H' ((same_upd np).trans s') (n.rp (re.same (s1.trans (same_upd np))).trk)⟩
end
end Pv


/-! stores, comprehensions -/
namespace Pv
open PySem PySem.Spec L2
open PyProof.Rows hiding St

/-! ### a slot is set -/
section
variable {K : PySem.W.Frag} {Gr : Gx} {F M : Addr → Prop} {H₀ H : Hp} {ρ : En} {σ : St}
theorem own_set {i : Nat} {s : Sl} {u : Option V} {a : Addr} (hs : ∀ d, s ≠ .dat d true) (h : Own (ρ.set i s) (σ.set i u) a) : Own ρ σ a := by
  obtain ⟨j, d, e1, e2⟩ := h
  rw [List.getElem?_set] at e1 e2
  by_cases hij : i = j
  · rw [if_pos hij] at e1
    split at e1
    · injection e1 with e1; exact absurd e1 (hs d)
    · cases e1
  · rw [if_neg hij] at e1 e2
    exact ⟨j, d, e1, e2⟩
theorem own_keep {i : Nat} {s : Sl} {u : Option V} {a : Addr} (hi : ownAt ρ i = false) (h : Own ρ σ a) : Own (ρ.set i s) (σ.set i u) a := by
  obtain ⟨j, d, e1, e2⟩ := h
  have hij : i ≠ j := by
    intro z
    subst z
    unfold ownAt at hi
    rw [e1] at hi
    cases hi
  exact ⟨j, d, by rw [List.getElem?_set, if_neg hij]; exact e1, by rw [List.getElem?_set, if_neg hij]; exact e2⟩
def SlP (K : PySem.W.Frag) (F : Addr → Prop) (H : Hp) : Sl → Option V → Prop
  | .dat d false, u => ∃ v, u = some v ∧ Rp K F H d v
  | .dat _ true, _ => False
  | .exn _ _, _ => False
  | .no, _ => True
theorem SlP.nn {s : Sl} {u : Option V} (q : SlP K F H s u) : ∀ d, s ≠ .dat d true := fun d z => by subst z; exact q
theorem RE.put (r : RE K Gr F H₀ M ρ σ H) {i : Nat} {s : Sl} {u : Option V} (q : SlP K (FF F ρ σ) H s u) : RE K Gr F H₀ M (ρ.set i s) (σ.set i u) H := by
  have hl : ∀ a, FF F (ρ.set i s) (σ.set i u) a → FF F ρ σ a := fun a z => z.imp id (own_set q.nn)
  have bk : ∀ (j : Nat) (d : PyData), (ρ.set i s)[j]? = some (.dat d true) → i ≠ j ∧ ρ[j]? = some (.dat d true) := fun j d e => by
    rw [List.getElem?_set] at e
    by_cases hij : i = j
    · rw [if_pos hij] at e
      split at e
      · injection e with e; exact absurd e (q.nn d)
      · cases e
    · rw [if_neg hij] at e
      exact ⟨hij, e⟩
  refine ⟨by simp [r.len], fun j d e => ?_, fun j d e => ?_, fun j l d e a e1 e2 e3 e4 => ?_, r.frm, fun a z => r.own a (own_set q.nn z), r.fn, fun j n ds e => ?_⟩
  · rw [List.getElem?_set] at e
    by_cases hij : i = j
    · rw [if_pos hij] at e
      split at e
      · rename_i hlt
        injection e with e
        subst e
        obtain ⟨v, rfl, rv⟩ := q
        refine ⟨v, ?_, rv.less hl⟩
        rw [List.getElem?_set, if_pos hij, if_pos (by rw [← r.len]; exact hlt)]
      · cases e
    · rw [if_neg hij] at e
      obtain ⟨v, e1, rv⟩ := r.pl j d e
      exact ⟨v, by rw [List.getElem?_set, if_neg hij]; exact e1, rv.less hl⟩
  · obtain ⟨hij, e⟩ := bk j d e
    obtain ⟨ds, a, vs, e0, e1, e2, rr⟩ := r.ow j d e
    exact ⟨ds, a, vs, e0, by rw [List.getElem?_set, if_neg hij]; exact e1, e2, rr.less hl⟩
  · obtain ⟨h1, e1⟩ := bk j d e1
    obtain ⟨h2, e2⟩ := bk l e e2
    rw [List.getElem?_set, if_neg h1] at e3
    rw [List.getElem?_set, if_neg h2] at e4
    exact r.un j l d e a e1 e2 e3 e4
  · rw [List.getElem?_set] at e
    by_cases hij : i = j
    · rw [if_pos hij] at e
      split at e
      · injection e with e
        subst e
        exact False.elim q
      · cases e
    · rw [if_neg hij] at e
      obtain ⟨a, C, od, e1, e2, x⟩ := r.ex j n ds e
      exact ⟨a, C, od, e1, by rw [List.getElem?_set, if_neg hij]; exact e2, x.less hl⟩
/-! what a target's stores change -/
structure Chg (is : List Nat) (ρ : En) (σ : St) (ρ' : En) (σ' : St) : Prop where
  wip : ∀ vs : List Nat, (∀ i ∈ is, i ∈ vs) → wipe σ' vs = wipe σ vs
  owl : ∀ a, Own ρ' σ' a → Own ρ σ a
  owk : (∀ i ∈ is, ownAt ρ i = false) → ∀ a, Own ρ σ a → Own ρ' σ' a
theorem Chg.refl : Chg is ρ σ ρ σ := ⟨fun _ _ => rfl, fun _ z => z, fun _ _ z => z⟩
theorem wipe_in {σ : St} {i : Nat} : ∀ {vs : List Nat}, i ∈ vs → i < σ.length → (wipe σ vs)[i]? = some none
  | v :: vs, h, hi => by
    unfold wipe
    rw [List.getElem?_set]
    by_cases hv : v = i
    · rw [if_pos hv, if_pos (by rw [wipe_length]; omega)]
    · rw [if_neg hv]
      rcases List.mem_cons.mp h with h | h
      · exact absurd h.symm hv
      · exact wipe_in h hi
theorem wipe_ext {σ σ' : St} {vs : List Nat} (hl : σ'.length = σ.length) (h : ∀ i, i ∉ vs → σ'[i]? = σ[i]?) : wipe σ' vs = wipe σ vs := by
  apply List.ext_getElem?
  intro i
  by_cases hv : i ∈ vs
  · by_cases hi : i < σ.length
    · rw [wipe_in hv hi, wipe_in hv (by omega)]
    · rw [List.getElem?_eq_none (by rw [wipe_length]; omega), List.getElem?_eq_none (by rw [wipe_length]; omega)]
  · rw [wipe_out hv, wipe_out hv, h i hv]
theorem ownAt_set {i j : Nat} {s : Sl} (hs : ∀ d, s ≠ .dat d true) (h : ownAt ρ j = false) : ownAt (ρ.set i s) j = false := by
  unfold ownAt at h ⊢
  rw [List.getElem?_set]
  split
  · rename_i e
    split at e
    · split at e
      · injection e with e; exact absurd e (hs _)
      · cases e
    · rw [e] at h; exact h
  · rfl
theorem Chg.one {i : Nat} {s : Sl} {u : Option V} (hs : ∀ d, s ≠ .dat d true) : Chg [i] ρ σ (ρ.set i s) (σ.set i u) where
  wip := fun vs hv => wipe_ext (by simp) fun j hj => by
    rw [List.getElem?_set, if_neg]
    intro z; subst z; exact hj (hv i (by simp))
  owl := fun a => own_set hs
  owk := fun h a => own_keep (h i (by simp))
theorem Chg.cons {i : Nat} {is : List Nat} {s : Sl} {u : Option V} {ρ' : En} {σ' : St} (hs : ∀ d, s ≠ .dat d true) (c : Chg is (ρ.set i s) (σ.set i u) ρ' σ') : Chg (i :: is) ρ σ ρ' σ' where
  wip := fun vs hv => (c.wip vs fun j hj => hv j (List.mem_cons_of_mem _ hj)).trans ((Chg.one (ρ := ρ) hs).wip vs fun j hj => hv j (by simp at hj; simp [hj]))
  owl := fun a z => own_set hs (c.owl a z)
  owk := fun h a z => c.owk (fun j hj => ownAt_set hs (h j (List.mem_cons_of_mem _ hj))) a (own_keep (h i (by simp)) z)
/-! ### targets -/
def gNames : List Nat → TGs
  | [] => gNil
  | i :: is => gCons (gName i) (gNames is)
def tTg (K : PySem.W.Frag) : Tg → TG
  | .one i => gName i
  | .tup is => gTup K is.length (gNames is)
theorem names_run : ∀ {is : List Nat} {ds : List PyData} {vs : List V} {ρ ρ' : En} {σ : St} {Q : St → Hp → Prop}, RE K Gr F H₀ M ρ σ H → Rps K (FF F ρ σ) H ds vs → setAll is ds ρ = some ρ' →
    (∀ σ', RE K Gr F H₀ M ρ' σ' H → Chg is ρ σ ρ' σ' → Q σ' H) → gNames is vs σ H Q
  | [], [], vs, ρ, ρ', σ, Q, re, r, h, hQ => by
    cases h
    have r : vs = [] := r
    exact ⟨r, hQ σ re Chg.refl⟩
  | [], d :: ds, vs, ρ, ρ', σ, Q, re, r, h, hQ => by cases h
  | i :: is, [], vs, ρ, ρ', σ, Q, re, r, h, hQ => by cases h
  | i :: is, d :: ds, vs, ρ, ρ', σ, Q, re, r, h, hQ => by
    obtain ⟨v, w, rfl, rv, rw'⟩ := r
    refine ⟨v, w, rfl, ?_⟩
    have q : SlP K (FF F ρ σ) H (.dat d false) (some v) := ⟨v, rfl, rv⟩
    refine names_run (re.put (i := i) q) (rw'.less fun a z => z.imp id (own_set q.nn)) h fun σ' re' c => hQ σ' re' (Chg.cons q.nn c)
theorem tg_run {g : Tg} {d : PyData} {x : V} {ρ' : En} {Q : St → Hp → Prop} (re : RE K Gr F H₀ M ρ σ H) (r : Rp K (FF F ρ σ) H d x) (h : tgSet g d ρ = .ok ρ') (hQ : ∀ σ', RE K Gr F H₀ M ρ' σ' H → Chg g.ixs ρ σ ρ' σ' → Q σ' H) : tTg K g x σ H Q := by
  cases g with
  | one i =>
    cases h
    have q : SlP K (FF F ρ σ) H (.dat d false) (some x) := ⟨x, rfl, r⟩
    exact hQ _ (re.put q) (Chg.one q.nn)
  | tup is =>
    cases d with
    | tuple ds =>
      simp only [tgSet] at h
      split at h
      · rename_i e
        cases h
        obtain ⟨a, vs, rfl, q, rs⟩ := r
        refine ⟨a, vs, rfl, q, ?_, names_run re rs e hQ⟩
        rw [← rs.length]
        clear rs q hQ re
        revert e
        have : ∀ {is : List Nat} {ds : List PyData} {ρ ρ' : En}, setAll is ds ρ = some ρ' → ds.length = is.length := by
          intro is
          induction is with
          | nil => intro ds ρ ρ' h; cases ds with
            | nil => rfl
            | cons => cases h
          | cons i is ih => intro ds ρ ρ' h; cases ds with
            | nil => cases h
            | cons d ds => simp [ih h]
        exact this
      · cases h
    | _ => cases h
end
section
variable {Gr : Gx} {G : GI} {Φ : Ph} {k : Nat} {L : Lc} {X : Cx} {W : WX}
structure StoreOk (L : Lc) (X : Cx) (x : Str) (i : Nat) : Prop extends SlotOk L X x i where
  loc : Loc X.env.scope x
  hf : X.fn x = true ∨ X.env.scope.names.lookup x = some .local
theorem lslot_ok (n : NmOk L X) {x : Str} {i : Nat} (h : L.lslot x = some i) : StoreOk L X x i := by
  unfold Lc.lslot at h
  split at h
  · rename_i e
    exact { slot_ok n h with loc := .inl (n.loc x e), hf := .inr (n.loc x e) }
  · rename_i e
    exact { slot_ok n h with loc := .inr (n.cel x e), hf := .inl (n.fn x e) }
  · cases h
theorem NmOk.nodup (n : NmOk L X) : X.N.Nodup := n.N ▸ n.nd
theorem names_pg (n : NmOk L X) : ∀ {es : List Expr} {is : List Nat}, es.mapM (tgName L) = some is → PGs X es (gNames is) ∧ (assignEach es X.env).length = is.length ∧ (assignEach es X.env).findIdx? (·.1) = none
  | [], is, h => by cases h; exact ⟨pgs_nil, rfl, rfl⟩
  | e :: es, is, h => by
    rw [List.mapM_cons] at h
    cases h1 : tgName L e with
    | none => rw [h1] at h; cases h
    | some i =>
      rw [h1] at h
      cases h2 : es.mapM (tgName L) with
      | none => rw [h2] at h; cases h
      | some js =>
        rw [h2] at h
        cases h
        obtain ⟨a1, a2, a3⟩ := names_pg n h2
        cases e with
        | Name x p =>
          have s := lslot_ok n (show L.lslot x = some i from h1)
          refine ⟨pgs_cons (pg_name n.nodup s.at_ s.loc s.hf) a1, ?_, ?_⟩
          · show (_ :: assignEach es X.env).length = _
            simp [a2]
          · show ((false, _) :: assignEach es X.env).findIdx? (·.1) = none
            rw [List.findIdx?_cons]
            simp [a3]
        | _ => cases h1
theorem tg_pg (n : NmOk L X) (hc : X.calm = true) {tg : Expr} {g : Tg} (h : tgOf L tg = some g) : PG X tg (tTg X.K g) := by
  cases tg with
  | Name x p =>
    have h : (L.lslot x).map Tg.one = some g := h
    cases e : L.lslot x with
    | none => rw [e] at h; cases h
    | some i =>
      rw [e] at h
      cases h
      have s := lslot_ok n e
      exact pg_name n.nodup s.at_ s.loc s.hf
  | Tuple es kk p =>
    have h : (es.mapM (tgName L)).map Tg.tup = some g := h
    cases e : es.mapM (tgName L) with
    | none => rw [e] at h; cases h
    | some is =>
      rw [e] at h
      cases h
      obtain ⟨a1, a2, a3⟩ := names_pg n e
      exact pg_tup hc a1 a2 a3
  | _ => cases h

/-! ### comprehensions -/
theorem relabel_free {env : Env} : ∀ {names : List (Str × NameKind)} {x : Str}, names.lookup x = some .free →
    (names.map fun (n, k) => if (k == NameKind.free && env.scope.kind == .function && env.kindOf n == some .cell) then (n, NameKind.cell) else (n, k)).lookup x = some .cell ∨
    (names.map fun (n, k) => if (k == NameKind.free && env.scope.kind == .function && env.kindOf n == some .cell) then (n, NameKind.cell) else (n, k)).lookup x = some .free
  | [], _, h => by simp at h
  | (n, k) :: r, x, h => by
    have ih := @relabel_free env r x
    rw [List.map_cons]
    by_cases hx : (x == n) = true
    · simp only [List.lookup_cons, hx] at h
      cases h
      by_cases hc : (NameKind.free == NameKind.free && env.scope.kind == .function && env.kindOf n == some .cell) = true
      · left; simp only [if_pos hc, List.lookup_cons, hx]
      · right; simp only [if_neg hc, List.lookup_cons, hx]
    · have hx' : (x == n) = false := by simpa using hx
      simp only [List.lookup_cons, hx'] at h
      by_cases hc : (k == NameKind.free && env.scope.kind == .function && env.kindOf n == some .cell) = true
      · simp only [if_pos hc, List.lookup_cons, hx']; exact ih h
      · simp only [if_neg hc, List.lookup_cons, hx']; exact ih h
theorem NmOk.blk (n : NmOk L X) {sc : Scope} {s : Shared} {H : Hp} {C : Addr} {cl : List (Str × Addr)} {fp : List Addr} : NmOk { N := L.N, nm := sc.names, calm := true, en := none } (X.blk s H sc (compEnvC sc cl C X.env) fp) where
  N := n.N
  nd := n.nd
  loc := fun x h => lookup_relS_keep (sc := X.env.scope) (by decide) h
  cel := fun x h => lookup_relS_keep (sc := X.env.scope) (by decide) h
  fre := fun x h => relabel_free h
  glo := fun x h => lookup_relS_keep (sc := X.env.scope) (by decide) h
  fn := fun x h => by
    show (sc.names.lookup x == some .cell) = true
    rw [show sc.names.lookup x = some .cell from h]; rfl
abbrev W0 : WX := fun _ _ _ _ => False
theorem EOk.blk (ok : EOk Gr G Φ k L X W) (hcalm : L.calm = true) {sc : Scope} {s : Shared} {H : Hp} {C : Addr} {cl : List (Str × Addr)} {fp : List Addr} : EOk Gr G Φ k { N := L.N, nm := sc.names, calm := true, en := none } (X.blk s H sc (compEnvC sc cl C X.env) fp) W0 where
  calm := fun _ => ok.calm hcalm
  room := fun _ => ok.room hcalm
  un := ok.un
  tk := takes0
  nm := ok.nm.blk
  gl := ok.gl
  fl := ok.fl
  mg := ok.mg
  sxc := fun _ => ok.sxc hcalm
  sx := fun a C od h => by rw [ok.sxc hcalm] at h; cases h
theorem blk_of (n : NmOk L X) {sc : Scope} {own : List (Str × Nat)} (h : blkC L.N { kind := .function, names := L.nm, isGenerator := false, isCoroutine := false } sc own = true) : BlkOk X.N X.env.scope sc own := by
  obtain ⟨h1, h2, h3, h4, h5⟩ := blkOk_by h
  refine ⟨h1, h2, ?_, fun y hy hf => ?_, ?_⟩
  · rw [n.N]; exact h3
  · rcases h4 y hy hf with z | z
    · exact .inl (n.cel _ z)
    · exact n.fre _ z
  · rw [n.N]; exact h5
def tTests (K : PySem.W.Frag) (G : Gx) (W : WX) (t : CT) : TT := tTst K G W t
theorem wipeE_at {ρ : En} : ∀ {vs : List Nat} {i : Nat}, ownAt ρ i = false ∨ i ∈ vs → ownAt (wipeE ρ vs) i = false
  | [], i, h => by
    rcases h with h | h
    · exact h
    · simp at h
  | v :: vs, i, h => by
    unfold wipeE
    by_cases hv : v = i
    · subst hv
      unfold ownAt
      rw [List.getElem?_set, if_pos rfl]
      split
      · rename_i e; split at e <;> cases e
      · rfl
    · refine ownAt_set (fun d z => by cases z) (wipeE_at ?_)
      rcases h with h | h
      · exact .inl h
      · rcases List.mem_cons.mp h with h | h
        · exact absurd h.symm hv
        · exact .inr h
theorem wipe_own {ρ : En} {σ : St} {a : Addr} : ∀ {vs : List Nat}, (∀ i ∈ vs, ownAt ρ i = false) → (Own (wipeE ρ vs) (wipe σ vs) a ↔ Own ρ σ a)
  | [], _ => Iff.rfl
  | v :: vs, h => by
    have ih := wipe_own (ρ := ρ) (σ := σ) (a := a) (vs := vs) fun i hi => h i (List.mem_cons_of_mem _ hi)
    unfold wipeE wipe
    refine ⟨fun z => ih.mp (own_set (fun d z => by cases z) z), fun z => own_keep (wipeE_at (.inl (h v (by simp)))) (ih.mpr z)⟩
theorem RE.wiped {K : PySem.W.Frag} {Gr : Gx} {F M : Addr → Prop} {H₀ H : Hp} {ρ : En} {σ : St} (re : RE K Gr F H₀ M ρ σ H) : ∀ vs : List Nat, RE K Gr F H₀ M (wipeE ρ vs) (wipe σ vs) H
  | [] => re
  | v :: vs => (re.wiped vs).put (s := .no) (u := none) trivial
/-- the state within a block: what grows is not to be met -/
theorem RE.within {K : PySem.W.Frag} {Gr : Gx} {F M : Addr → Prop} {H₀ H H1 : Hp} {ρ : En} {σ : St} {D : Addr} {acc : List V} (re : RE K Gr F H₀ M ρ σ H1) (hn : H1 D = none) (s : Same H1 H) (hD : H D = some (.lst acc)) : RE K Gr (fun a => F a ∨ a = D) H (Own ρ σ) ρ σ H := by
  have r2 := re.same s
  refine ⟨r2.len, fun i d e => ?_, fun i d e => ?_, r2.un, fun a o h _ => h, fun a z => ⟨.inr z, fun c => ?_⟩, fun a z => ?_, fun i n ds e => ?_⟩
  · obtain ⟨v, e1, rv⟩ := re.pl i d e
    refine ⟨v, e1, Rp.same (Rp.grow (fun a z => ?_) d v rv) s⟩
    rcases z with (z | z) | z
    · exact .inl (.inl z)
    · subst z; exact .inr hn
    · exact .inl (.inr z)
  · obtain ⟨ds, a, vs, e0, e1, e2, rv⟩ := re.ow i d e
    refine ⟨ds, a, vs, e0, e1, s _ _ e2, Rps.same (Rps.grow (fun a z => ?_) ds vs rv) s⟩
    rcases z with (z | z) | z
    · exact .inl (.inl z)
    · subst z; exact .inr hn
    · exact .inl (.inr z)
  · rcases c with c | c
    · exact (re.own a z).2 c
    · subst c
      have m := re.ff (.inr z)
      rw [hn] at m
      exact m
  · rcases z with z | z
    · refine ⟨r2.ff (.inl z), fun c => (re.own a c).2 z⟩
    · subst z
      refine ⟨by rw [hD]; trivial, fun c => ?_⟩
      have m := re.ff (.inr c)
      rw [hn] at m
      exact m
  · obtain ⟨a, C, od, e1, e2, x⟩ := re.ex i n ds e
    refine ⟨a, C, od, e1, e2, x.keep (fun _ _ e => s _ _ e) fun vs r => Rps.same (Rps.grow (fun a z => ?_) ds vs r) s⟩
    rcases z with (z | z) | z
    · exact .inl (.inl z)
    · subst z; exact .inr hn
    · exact .inl (.inr z)

theorem comp_turns {K : PySem.W.Frag} {Gr : Gx} {F M : Addr → Prop} {H₀ H1 : Hp} {ρ : En} {σ : St} {D : Addr} {J : It} {g : Tg} {t : CT} {e : CE} {vs : List Nat} {ds out : List PyData} {Q : Hp → Prop}
    (re : RE K Gr F H₀ M ρ σ H1) (hn : H1 D = none) (hv : ∀ i ∈ vs, ownAt ρ i = false) (hg : ∀ i ∈ g.ixs, i ∈ vs) (hz : ds.length ≤ sizeLine) (io : ItOk K (fun _ => False) (FF F ρ σ) H1 J ds) (hc : compL g t e (wipeE ρ vs) ds = .ok out)
    (hQ : ∀ H acc, Same H1 H → H D = some (.lst acc) → Rps K (fun a => FF F ρ σ a ∨ a = D) H out acc → Q H) :
    ∃ W : Nat → Nat → Hp → Prop, (∃ m, W 0 m (upd H1 D (.lst []))) ∧ ∀ i m H, W i m H →
      (J.stop i H ∧ Q H) ∨ (J.go i H ∧ ∃ Nx : Hp → Prop, (∀ H', Nx H' → ∃ m', m' < m ∧ W (i + 1) m' H') ∧ ∀ x H', J.yld i H x H' → tTg K g x (wipe σ vs) H' fun σ2 H2 => wipe σ2 vs = wipe σ vs ∧ tTst K Gr W0 t σ2 H2 fun b H3 =>
        if b = true then tE K Gr W0 e σ2 H3 fun y H4 => ∃ acc, H4 D = some (.lst acc) ∧ acc.length < sizeLine ∧ Nx (upd H4 D (.lst (acc ++ [y]))) else Nx H3) := by
  have st : ∀ {H}, Same H1 H → Stay (fun _ => False) H1 H := fun s a o _ h => s a o h
  let Wd : Nat → Hp → Prop := fun i H => i ≤ ds.length ∧ Same H1 H ∧ ∃ acc o1 o2, H D = some (.lst acc) ∧ Rps K (fun a => FF F ρ σ a ∨ a = D) H o1 acc ∧ o1.length ≤ i ∧ compL g t e (wipeE ρ vs) (ds.drop i) = .ok o2 ∧ o1 ++ o2 = out
  refine ⟨fun i m H => m = ds.length - i ∧ Wd i H, ⟨_, rfl, Nat.zero_le _, same_upd hn, [], [], out, upd_same, rfl, Nat.le_refl _, by simpa using hc, rfl⟩, ?_⟩
  rintro i m H ⟨rfl, hi, s, acc, o1, o2, hD, r1, hl, h2, ho⟩
  by_cases hlt : i < ds.length
  · right
    refine ⟨io.go i H hlt (st s), Wd (i + 1), fun H' h => ⟨_, by omega, rfl, h⟩, fun x H' y => ?_⟩
    have ei : ds[i]? = some ds[i] := by simp [hlt]
    obtain ⟨s', rx⟩ := io.yld (fun a => FF F ρ σ a ∨ a = D) (fun a z => z.imp id fun z => by subst z; exact hn) i H H' x ds[i] (st s) ei y
    have sH := s.trans s'
    have re1 := (re.within hn sH (s' _ _ hD)).wiped vs
    have ow : ∀ a, Own (wipeE ρ vs) (wipe σ vs) a ↔ Own ρ σ a := fun a => wipe_own hv
    rw [List.drop_eq_getElem_cons hlt] at h2
    unfold compL at h2
    cases ht : tgSet g ds[i] (wipeE ρ vs) with
    | ok ρ' =>
      rw [ht, R.bind_ok] at h2
      refine tg_run re1 (rx.less fun a z => ?_) ht fun σ2 re2 ch => ⟨?_, ?_⟩
      · rcases z with (z | z) | z
        · exact .inl (.inl z)
        · exact .inr z
        · exact .inl (.inr ((ow a).mp z))
      · rw [ch.wip vs hg]
        exact wipe_ext (wipe_length _ _) fun j hj => wipe_out hj
      · have fw : ∀ a, FF F ρ σ a ∨ a = D → FF (fun a => F a ∨ a = D) ρ' σ2 a := fun a z => by
          rcases z with (z | z) | z
          · exact .inl (.inl z)
          · exact .inr (ch.owk (fun j hj => wipeE_at (.inr (hg j hj))) a ((ow a).mpr z))
          · exact .inl (.inr z)
        have bw : ∀ a, FF (fun a => F a ∨ a = D) ρ' σ2 a → FF F ρ σ a ∨ a = D := fun a z => by
          rcases z with (z | z) | z
          · exact .inl (.inl z)
          · exact .inr z
          · exact .inl (.inr ((ow a).mp (ch.owl a z)))
        refine ⟨_, _, _, ρ', re2, ?_⟩
        cases hb : t ρ' with
        | ok b =>
          rw [hb, R.bind_ok] at h2
          intro b' H3 s3 eb
          subst eb
          cases b with
          | false =>
            rw [if_neg (by simp)] at h2 ⊢
            exact ⟨hlt, sH.trans s3, acc, o1, o2, s3 _ _ (s' _ _ hD), (r1.same (s'.trans s3)), by omega, h2, ho⟩
          | true =>
            rw [if_pos rfl] at h2 ⊢
            refine ⟨_, _, _, ρ', re2.same s3, ?_⟩
            cases hy : e ρ' with
            | ok yd =>
              rw [hy, R.bind_ok] at h2
              intro y' H4 s4 ry
              have h4 := s4 _ _ (s3 _ _ (s' _ _ hD))
              have sk : Kp (fun a => FF F ρ σ a ∨ a = D) H4 (upd H4 D (.lst (acc ++ [y']))) := fun b o hb c => by
                by_cases hbd : b = D
                · subst hbd
                  rw [h4] at hb
                  cases hb
                  rcases c with c | ⟨xs, c⟩ | ⟨u, xs, c⟩
                  · exact absurd (.inr rfl) c
                  · cases c
                  · cases c
                · rw [upd_ne hbd]; exact hb
              cases hr : compL g t e (wipeE ρ vs) (ds.drop (i + 1)) with
              | ok ys =>
                rw [hr, R.bind_ok] at h2
                cases h2
                have hal : acc.length ≤ i := by rw [← r1.length]; exact hl
                refine ⟨acc, h4, by omega, hlt, ?_, _, o1 ++ [yd], ys, upd_same, ?_, by simp; omega, hr, by simp [← ho]⟩
                · intro a o ha
                  by_cases had : a = D
                  · subst had; rw [hn] at ha; cases ha
                  · rw [upd_ne had]; exact (sH.trans (s3.trans s4)) a o ha
                · refine Rps.append (Rps.keep sk (fun _ z => z) _ _ (r1.same (s'.trans (s3.trans s4)))) (Rps.one (Rp.keep sk (fun _ z => z) _ _ (ry.less fw)))
              | exc n es => rw [hr] at h2; cases h2
              | bad => rw [hr] at h2; cases h2
            | exc n es => rw [hy] at h2; cases h2
            | bad => rw [hy] at h2; cases h2
        | exc n es => rw [hb] at h2; cases h2
        | bad => rw [hb] at h2; cases h2
    | exc n es => rw [ht] at h2; cases h2
    | bad => rw [ht] at h2; cases h2
  · left
    have e : i = ds.length := by omega
    subst e
    refine ⟨io.stop H (st s), ?_⟩
    rw [List.drop_length] at h2
    cases h2
    rw [List.append_nil] at ho
    subst ho
    exact hQ H acc s hD r1
theorem tF_comp {K : PySem.W.Frag} {Gr : Gx} {W : WX} {σ : St} {H : Hp} {Q : VK} {ci : CI} {g : Tg} {t : CT} {e : CE} {vs : List Nat} (hg : ∀ i ∈ g.ixs, i ∈ vs) (h : tF K Gr W (cComp ci vs g t e) σ H Q) :
    tLc (tIt K Gr W true ci) (tTg K g) (tTst K Gr W0 t) (tE K Gr W0 e) vs σ H Q := by
  obtain ⟨F, H₀, M, ρ, re, p⟩ := h
  refine ⟨F, H₀, M, ρ, re, ?_⟩
  unfold cComp at p
  cases hc : ci ρ with
  | ok ds =>
    rw [hc, R.bind_ok] at p
    intro J H1 s1 hz io D hn
    split at p
    · exact False.elim p
    · rename_i hv
      obtain ⟨out, ho, q⟩ := quiet_bind p
      have hv' : ∀ i ∈ vs, ownAt ρ i = false := fun i hi => by
        cases hx : ownAt ρ i with
        | false => rfl
        | true => exact absurd (List.any_eq_true.mpr ⟨i, hi, hx⟩) hv
      refine comp_turns (re.same s1) hn hv' hg hz io ho fun H' acc s' hD r => ?_
      exact q _ _ (s1.trans s') ⟨D, acc, rfl, s1.free hn, hD, r⟩
  | exc n es => rw [hc] at p; exact p
  | bad => rw [hc] at p; exact p
theorem folded_of {e : Expr} {env : Env} (h : notSet e = true) : ∀ x, foldedSetIterable e env x = pure x := by
  cases e <;> first | (intro x; rfl) | cases h
end
end Pv


/-! what a suite asks of its exception; count, index -/
namespace Pv
open PySem PySem.Spec L2
open PyProof.Rows hiding St

section
variable {Gr : Gx} {G : GI} {Φ : Ph} {k : Nat} {L : Lc} {X : Cx} {W : WX}
theorem has_flds {n f : Str} (h : f ∈ G.flds n) : G.flds n ≠ [] := fun z => by rw [z] at h; cases h
theorem zip_lookup {K : PySem.W.Frag} {F : Addr → Prop} {H : Hp} {f : Str} {d : PyData} : ∀ {fs : List Str} {ds : List PyData} {vs : List V}, (fs.zip ds).lookup f = some d → Rps K F H ds vs → ∃ v, (fs.zip vs).lookup f = some v ∧ Rp K F H d v
  | [], ds, vs, h, r => by cases h
  | g :: fs, [], vs, h, r => by cases h
  | g :: fs, e :: ds, vs, h, r => by
    obtain ⟨v, w, rfl, rv, rw'⟩ := r
    rw [List.zip_cons_cons, List.lookup_cons] at h
    rw [List.zip_cons_cons, List.lookup_cons]
    cases hx : f == g with
    | true => rw [hx] at h; cases h; exact ⟨v, rfl, rv⟩
    | false => rw [hx] at h; exact zip_lookup h rw'
theorem exnOf_is {e : Expr} {i : Nat} (h : exnOf L e = some i) : ∃ x p, e = .Name x p ∧ L.slot x = some i := by
  cases e with
  | Name x p =>
    have h : (if L.en = some x then L.slot x else none) = some i := h
    split at h
    · exact ⟨x, p, rfl, h⟩
    · cases h
  | _ => cases h
theorem sn_fld (ok : EOk Gr G Φ k L X W) {o : Expr} {i : Nat} {f : Str} {pos : Pos} (h : exnOf L o = some i) : PE X (.Attribute o f pos) (tE X.K Gr W (cFld G i f)) := by
  obtain ⟨x, p, rfl, hs⟩ := exnOf_is h
  cases hx : Gr.sx with
  | none =>
    refine ⟨fun pins s σ H Q I hh => ?_⟩
    obtain ⟨F, H₀, M, ρ, re, q⟩ := hh
    unfold cFld at q
    split at q
    · rename_i e
      obtain ⟨a, C, od, e1, _⟩ := re.ex _ _ _ e
      rw [hx] at e1; cases e1
    · exact False.elim q
  | some z =>
    obtain ⟨a, C, od⟩ := z
    obtain ⟨X0, oe, pn, rfl, hz, hf⟩ := ok.sx a C od hx
    by_cases hc : ∃ n, Gr.mg n = some (.ref C) ∧ G.has n = true ∧ f ∈ G.flds n
    · obtain ⟨n, h1, h2, h3⟩ := hc
      have c := ok.gl.cls n C h2 (by rw [← ok.mg]; exact h1)
      have s := slot_ok ok.nm hs
      refine PE.imp (pe_xf (X := X0) (a := a) ⟨c.hg, c.hk, c.hs, c.hd⟩ (c.fl f h3) hz hf (pe_var s.at_ s.vis s.d1 s.d2)) fun σ H Q hh => ?_
      obtain ⟨F, H₀, M, ρ, re, q⟩ := hh
      unfold cFld at q
      split at q
      · rename_i n' ds e
        obtain ⟨a', C', od', e1, e2, C2, x1, x2, x3⟩ := re.ex _ _ _ e
        rw [hx] at e1
        cases e1
        cases x2
        split at q
        · rename_i hh
          rcases x3 with ⟨x3, _⟩ | ⟨_, dx, ws, h5, h6, h7, h8⟩
          · rw [ok.fl] at x3; exact absurd x3 (has_flds hh.2)
          · rw [ok.fl] at h6
            split at q
            · rename_i d hd
              obtain ⟨v, hv, rv⟩ := zip_lookup hd h8
              exact ⟨_, e2, rfl, rfl, dx, _, v, h5, h6, hv, q v H (Same.refl H) rv⟩
            · exact False.elim q
        · exact False.elim q
      · exact False.elim q
    · refine ⟨fun pins s σ H Q I hh => ?_⟩
      obtain ⟨F, H₀, M, ρ, re, q⟩ := hh
      unfold cFld at q
      split at q
      · rename_i n' ds e
        obtain ⟨a', C', od', e1, e2, C2, x1, x2, x3⟩ := re.ex _ _ _ e
        rw [hx] at e1
        cases e1
        cases x2
        split at q
        · rename_i hh
          exact absurd ⟨n', x1, hh.1, hh.2⟩ hc
        · exact False.elim q
      · exact False.elim q
/-! isinstance of it -/
/-- the value of a class name -/
def VofC (cv : Value) : V := match cv with
  | .ref a => .ref a
  | .type n => .ty n
  | _ => .non
theorem exTy1_ok (ok : EOk Gr G Φ k L X W) {e : Expr} {t : Str} (h : exTy1 G L e = some t) : ∃ cv, ClsOf G X.mg t cv ∧ ((∃ a, cv = .ref a) ∨ ∃ n, cv = .type n) ∧ PE X e (tC (VofC cv)) ∧ notStar e = true := by
  cases e with
  | Name x p =>
    have h : (if (L.glob x && G.clsName x) = true then some x else none) = some t := h
    split at h
    · rename_i hg
      cases h
      rw [Bool.and_eq_true] at hg
      have g := glob_ok ok.nm hg.1
      obtain ⟨cv, hc, hr⟩ := ok.gl.nms _ hg.2
      refine ⟨cv, hc, hr, ?_, rfl⟩
      have rv : RelV (VofC cv) cv := by
        rcases hr with ⟨a, rfl⟩ | ⟨n, rfl⟩
        · exact rfl
        · exact rfl
      rcases hc with ⟨_, hc⟩ | ⟨_, h1, h2⟩
      · exact pe_glob g.gl hc rv g.d1
      · exact pe_bltn g.gl h1 h2 rv g.nn g.d1
    · cases h
  | _ => cases h
def tCls (cvs : List Value) : TA := fun _ H Q => Q (cvs.map VofC) H
theorem exTys_pa (ok : EOk Gr G Φ k L X W) : ∀ {es : List Expr} {ts : List Str}, es.mapM (exTy1 G L) = some ts → ∃ cvs, cvs.length = es.length ∧ Paired (ClsOf G X.mg) ts cvs ∧ (∀ cv ∈ cvs, (∃ a, cv = .ref a) ∨ ∃ n, cv = .type n) ∧ PA X es (tCls cvs)
  | [], ts, h => by
    cases h
    exact ⟨[], rfl, .nil, (fun _ z => by cases z), PA.imp pa_nil fun σ H Q q => q⟩
  | e :: es, ts, h => by
    rw [List.mapM_cons] at h
    cases h1 : exTy1 G L e with
    | none => rw [h1] at h; cases h
    | some t =>
      rw [h1] at h
      cases h2 : es.mapM (exTy1 G L) with
      | none => rw [h2] at h; cases h
      | some ts' =>
        rw [h2] at h
        cases h
        obtain ⟨cv, a1, a2, a3, a4⟩ := exTy1_ok ok h1
        obtain ⟨cvs, b1, b2, b3, b4⟩ := exTys_pa ok h2
        refine ⟨cv :: cvs, by simp [b1], .cons a1 b2, fun c hc => ?_, PA.imp (pa_cons a3 b4 (star_cons a4)) fun σ H Q q => q⟩
        rcases List.mem_cons.mp hc with rfl | hc
        · exact a2
        · exact b3 c hc
theorem kitAny_cls {K : PySem.W.Frag} {mg : Str → Option Value} {n : Str} {C : Addr} (c : ClOk G K mg n C) : ∀ {ts : List Str} {cvs : List Value}, Paired (ClsOf G mg) ts cvs → PySem.W.kitAny K (.ref C) cvs = some (ts.any fun t => decide (t ∈ G.ups n))
  | [], [], _ => rfl
  | t :: ts, cv :: cvs, .cons h r => by
    have e := c.is _ _ h
    have r := kitAny_cls c r
    rw [List.any_cons]
    unfold PySem.W.kitAny
    rw [e]
    cases decide (t ∈ G.ups n) with
    | true => rfl
    | false => exact r
theorem relV_of {cv u : Value} (hr : (∃ a, cv = .ref a) ∨ ∃ n, cv = .type n) (r : RelV (VofC cv) u) : u = cv := by
  rcases hr with ⟨a, rfl⟩ | ⟨n, rfl⟩
  · exact r
  · exact r
theorem vals_of : ∀ {cvs us : List Value}, (∀ cv ∈ cvs, (∃ a, cv = .ref a) ∨ ∃ n, cv = .type n) → Vals (cvs.map VofC) us → us = cvs
  | [], us, _, r => by cases r; rfl
  | cv :: cvs, us, h, r => by
    cases r with
    | cons r1 r2 =>
      rw [relV_of (h cv (by simp)) r1, vals_of (fun c hc => h c (List.mem_cons_of_mem _ hc)) r2]
/-- the caught one, as isinstance asks it -/
theorem inst_caught {a C : Addr} {oe : Obj} {od : Option Addr} {h : Heap} {H : Hp} {P : Program} {w : World} (ho : h.get? a = some oe) (hz : Zc (.ref C) od oe) (hf : ∃ vs, oe.data = .fields vs) (hk : HOk P w H h) (hd : ∀ dx, od = some dx → ∃ fs, H dx = some (.xd fs)) : ∃ od', PySem.W.InstAt h a oe C od' := by
  obtain ⟨vs, hv⟩ := hf
  obtain ⟨oc, odd, oda, osl⟩ := oe
  obtain ⟨h1, h2⟩ := hz
  dsimp only at h1 h2 hv
  subst h1 h2 hv
  cases odd with
  | none => exact ⟨none, ho, rfl, rfl, trivial⟩
  | some dx =>
    obtain ⟨fs, hfs⟩ := hd dx rfl
    obtain ⟨mA, ⟨o, es, ep, e, _⟩, _⟩ := hk dx _ hfs
    exact ⟨some o, ho, rfl, rfl, e⟩
theorem call_is1 {a C : Addr} {oe : Obj} {od : Option Addr} {pn : List (Addr × Obj)} {mg : Str → Option Value} {n : Str} (c : ClOk G X.K mg n C) (hz : Zc (.ref C) od oe) (hf : ∃ vs, oe.data = .fields vs) :
    CallR (X.suite a ((a, oe) :: pn)) (.builtin "isinstance") (fun xs H Q => (∀ dx, od = some dx → ∃ fs, H dx = some (.xd fs)) ∧
      ((∃ t cv, xs = [.ref a, VofC cv] ∧ ((∃ a, cv = .ref a) ∨ ∃ n, cv = .type n) ∧ ClsOf G mg t cv ∧ Q (.bl (decide (t ∈ G.ups n))) H) ∨
       (∃ p ts cvs, xs = [.ref a, .ref p] ∧ H p = some (.tup (cvs.map VofC)) ∧ (∀ cv ∈ cvs, (∃ a, cv = .ref a) ∨ ∃ n, cv = .type n) ∧ Paired (ClsOf G mg) ts cvs ∧ Q (.bl (ts.any fun t => decide (t ∈ G.ups n))) H))) := by
  intro pins s σ H xs us Q I r h
  obtain ⟨hd, h⟩ := h
  obtain ⟨hget, _⟩ := I.pin (a, oe) (List.mem_append.mpr (.inl List.mem_cons_self))
  obtain ⟨od', J⟩ := inst_caught hget hz hf I.hok hd
  have hcl : (PySem.W.clsIn X.K C).isSome = true := by
    obtain ⟨cd, hc, _⟩ := PySem.W.any_some c.hd
    rw [hc]; rfl
  have Z := PySem.W.kitx_exc (x := a) (ox := oe) (od := od') hcl c.hg c.hk c.hs c.ha c.hn c.ht c.hm
  rcases h with ⟨t, cv, rfl, hr, ht, q⟩ | ⟨p, ts, cvs, rfl, hp, hr, ht, q⟩
  · obtain ⟨u1, u2, rfl, r1, r2⟩ := vals2 r
    cases (show u1 = Value.ref a from r1)
    cases relV_of hr r2
    exact PySem.W.kia_one Z I.kIn J (c.is t cv ht) (fun z => nomatch z) fun tk => ⟨.bl _, H, I.kept (t' := tk) fun _ _ z => z, rfl, q⟩
  · obtain ⟨u1, u2, rfl, r1, r2⟩ := vals2 r
    cases (show u1 = Value.ref a from r1)
    cases (show u2 = Value.ref p from r2)
    obtain ⟨_, its, rv, o, h1, h2, m, h3⟩ := (show ObjOk X.prog X.w H s.heap p (.tup (cvs.map VofC)) from I.hok p _ hp)
    cases vals_of hr rv
    obtain ⟨oc, odd, dt, sl⟩ := o
    simp only at h2 h3
    subst h2 h3
    exact PySem.W.kia_tup Z I.kIn J h1 (kitAny_cls c ht) (fun z => nomatch z) fun tk => ⟨.bl _, H, I.kept (t' := tk) fun _ _ z => z, rfl, q⟩
theorem sn_isE (ok : EOk Gr G Φ k L X W) {a b : Expr} {i : Nat} {ts : List Str} {p pos : Pos} (hg : L.glob "isinstance" = true) (ha : exnOf L a = some i) (hb : exTys G L b = some ts) : PE X (.Call (.Name "isinstance" p) [a, b] [] pos) (tE X.K Gr W (cIsE G i ts)) := by
  obtain ⟨x, px, rfl, hs⟩ := exnOf_is ha
  have g := glob_ok ok.nm hg
  cases hx : Gr.sx with
  | none =>
    refine ⟨fun pins s σ H Q I hh => ?_⟩
    obtain ⟨F, H₀, M, ρ, re, q⟩ := hh
    unfold cIsE at q
    split at q
    · rename_i e
      obtain ⟨a, C, od, e1, _⟩ := re.ex _ _ _ e
      rw [hx] at e1; cases e1
    · exact False.elim q
  | some z =>
    obtain ⟨a, C, od⟩ := z
    obtain ⟨X0, oe, pn, rfl, hz, hf⟩ := ok.sx a C od hx
    have s := slot_ok ok.nm hs
    have pv := pe_var (X := X0.suite a ((a, oe) :: pn)) (pos := px) s.at_ s.vis s.d1 s.d2
    -- what the closure tells
    have look : ∀ {σ H} {Q : VK}, tE X0.K Gr W (cIsE G i ts) σ H Q → ∃ n, G.has n = true ∧ Gr.mg n = some (.ref C) ∧ σ[i]? = some (some (.ref a)) ∧ (∀ dx, od = some dx → ∃ fs, H dx = some (.xd fs)) ∧ ∀ H', Same H H' → Q (.bl (ts.any fun t => decide (t ∈ G.ups n))) H' := by
      intro σ H Q hh
      obtain ⟨F, H₀, M, ρ, re, q⟩ := hh
      unfold cIsE at q
      split at q
      · rename_i n' ds e
        obtain ⟨a', C', od', e1, e2, C2, x1, x2, x3⟩ := re.ex _ _ _ e
        rw [hx] at e1
        cases e1
        cases x2
        split at q
        · rename_i hn
          refine ⟨n', hn, x1, e2, fun dx hdx => ?_, fun H' s' => q _ H' s' rfl⟩
          rcases x3 with ⟨_, _, x3⟩ | ⟨_, dx', ws, h5, h6, _⟩
          · rw [x3] at hdx; cases hdx
          · rw [h5] at hdx; cases hdx; exact ⟨_, h6⟩
        · exact False.elim q
      · exact False.elim q
    by_cases hc : ∃ n, G.has n = true ∧ Gr.mg n = some (.ref C)
    · -- the class is known
      have one : ∀ {t : Str}, exTy1 G L b = some t → ts = [t] → PE (X0.suite a ((a, oe) :: pn)) (.Call (.Name "isinstance" p) [.Name x px, b] [] pos) (tE X0.K Gr W (cIsE G i ts)) := by
        intro t h1 ht
        subst ht
        obtain ⟨cv, a1, a2, a3, a4⟩ := exTy1_ok ok h1
        refine ⟨fun pins s σ H Q I hh => ?_⟩
        obtain ⟨n, n1, n2, n3, n4, n5⟩ := look hh
        have c := ok.gl.cls n C n1 (by rw [← ok.mg]; exact n2)
        refine (pe_callB (call_is1 c hz hf) g.gl (ok.gl.bi _ (by decide)) (by decide +kernel) (pa_cons pv (pa_cons a3 pa_nil (star_cons a4)) rfl) g.nn g.d1 rfl (by rw [star_cons a4]; rfl)).run pins s σ H Q I ?_
        exact ⟨_, n3, n4, .inl ⟨t, cv, rfl, a2, a1, by have := n5 H (Same.refl H); simpa using this⟩⟩
      cases b with
      | Tuple es kk tp =>
        have hb : (if es.length ≤ 100 then es.mapM (exTy1 G L) else none) = some ts := hb
        split at hb
        · rename_i hz100
          obtain ⟨cvs, b1, b2, b3, b4⟩ := exTys_pa ok hb
          refine ⟨fun pins s σ H Q I hh => ?_⟩
          obtain ⟨n, n1, n2, n3, n4, n5⟩ := look hh
          have c := ok.gl.cls n C n1 (by rw [← ok.mg]; exact n2)
          refine (pe_callB (call_is1 c hz hf) g.gl (ok.gl.bi _ (by decide)) (by decide +kernel) (pa_cons pv (pa_cons (pe_tup b4) pa_nil)) g.nn g.d1 rfl rfl).run pins s σ H Q I ?_
          refine ⟨_, n3, ?_, fun q nq => ⟨fun dx hdx => ?_, .inr ⟨q, ts, cvs, rfl, upd_same, b3, b2, n5 _ (same_upd nq)⟩⟩⟩
          · have := sizeLine_eq
            rw [List.length_map, b1]; omega
          · obtain ⟨fs, e⟩ := n4 dx hdx
            exact ⟨fs, same_upd nq _ _ e⟩
        · cases hb
      | Name y py =>
        have hb : (exTy1 G L (.Name y py)).map (fun x => [x]) = some ts := hb
        cases h1 : exTy1 G L (.Name y py) with
        | none => rw [h1] at hb; cases hb
        | some t => rw [h1] at hb; cases hb; exact one h1 rfl
      | _ => cases hb
    · refine ⟨fun pins s σ H Q I hh => ?_⟩
      obtain ⟨n, n1, n2, _⟩ := look hh
      exact absurd ⟨n, n1, n2⟩ hc

/-! ### xs.count(y), xs.index(y) -/
def rM (K : PySem.W.Frag) (g : PyData → PyData → R PyData) : V → List V → Hp → VK → Prop := fun x xs H Q => ∃ y, xs = [y] ∧ rD K g x y H Q
theorem find_at {α : Type} {p : α → Bool} : ∀ {l : List α} {j : Nat}, l.findIdx? p = some j → ∃ z, l[j]? = some z ∧ p z = true ∧ ∀ m y, m < j → l[m]? = some y → p y = false
  | [], j, h => by cases h
  | a :: l, j, h => by
    rw [List.findIdx?_cons] at h
    cases ha : p a with
    | true =>
      rw [ha] at h
      cases h
      exact ⟨a, rfl, ha, fun m y hm => absurd hm (Nat.not_lt_zero _)⟩
    | false =>
      rw [ha] at h
      cases hf : l.findIdx? p with
      | none => rw [hf] at h; cases h
      | some i =>
        rw [hf] at h
        cases h
        obtain ⟨z, h1, h2, h3⟩ := find_at hf
        refine ⟨z, h1, h2, fun m y hm hy => ?_⟩
        cases m with
        | zero => cases hy; exact ha
        | succ m => exact h3 m y (by have hm : m + 1 < i + 1 := hm; omega) hy
theorem mtd_count (hu : X.A.units + 128 < cLine) : MtR X "list.count" (rM X.K countD) := by
  intro pins s σ H x xs v us Q I rx rxs h
  obtain ⟨y, rfl, F, d, e, r, tr, hd, he, hg, q⟩ := h
  obtain ⟨uy, rfl, ry⟩ := Vals.one rxs
  cases d with
  | list ds =>
    simp only [countD] at hg
    split at hg
    · rename_i hz
      cases hg
      have hn := hd.noDic
      obtain ⟨as, r1⟩ := hd.reads I rx
      obtain ⟨bs, r2⟩ := he.reads I ry
      obtain ⟨a, vs, rfl, q1, r3⟩ := hd
      cases rx
      obtain ⟨hlen, its, n, rv, ho⟩ := Inv.exactL I q1
      have ra : ∃ as, ReadsAll s.heap its ds as := Dp.readsAll I ds _ its (Rps.dp ds vs r3) rv
      obtain ⟨as2, ra⟩ := ra
      refine call_meets PySem.F.slot_list_count ⟨_, ho, rfl⟩ PySem.F.entry_list_count (PySem.F.args_list_count_2 _ _)
        (SeqAt.list_countAt a its.toArray n _ _ uy (ansU s.heap e)) ⟨ho, fun u hu' => ansU_eqAt r2 he.noDic hz (by show X.A.units + 1 + 64 < cLine; omega) ra hn u (by simpa using hu'), ?_⟩
      rw [show its.toArray.toList = its from rfl, ansU_count ra hn]
      exact ⟨.int _, H, I.tok _, ⟨_, rfl⟩, q _ _ (Same.refl H) rfl⟩
    · cases hg
  | _ => cases hg
theorem ansU_at {h : Heap} {d : PyData} : ∀ {ds : List PyData} {us : List Value} {as : List Addr} {j : Nat} {z : PyData}, ReadsAll h us ds as → noDics ds = true → ds[j]? = some z → ∃ u, us[j]? = some u ∧ ansU h d u = PyData.eqv z d
  | [], _, _, j, z, r, _, e => by simp at e
  | x :: ds, _, _, j, z, r, hn, e => by
    cases r with | cons r1 r2 => ?_
    cases j with
    | zero => simp at e; subst e; exact ⟨_, rfl, ansU_of r1 (noDics_cons hn).1⟩
    | succ j =>
      obtain ⟨u, e1, e2⟩ := ansU_at (j := j) r2 (noDics_cons hn).2 (by simpa using e)
      exact ⟨u, by simpa using e1, e2⟩
theorem mtd_index (hu : X.A.units + 128 < cLine) : MtR X "list.index" (rM X.K indexD) := by
  intro pins s σ H x xs v us Q I rx rxs h
  obtain ⟨y, rfl, F, d, e, r, tr, hd, he, hg, q⟩ := h
  obtain ⟨uy, rfl, ry⟩ := Vals.one rxs
  cases d with
  | list ds =>
    simp only [indexD] at hg
    split at hg
    · rename_i hz
      split at hg
      · rename_i j hj
        cases hg
        have hn := hd.noDic
        obtain ⟨bs, r2⟩ := he.reads I ry
        obtain ⟨a, vs, rfl, q1, r3⟩ := hd
        cases rx
        obtain ⟨hlen, its, n, rv, ho⟩ := Inv.exactL I q1
        obtain ⟨as2, ra⟩ : ∃ as, ReadsAll s.heap its ds as := Dp.readsAll I ds _ its (Rps.dp ds vs r3) rv
        obtain ⟨z, h1, h2, h3⟩ := find_at hj
        have hl1 := r3.length
        have hl2 := rv.length
        have hsl := sizeLine_eq
        obtain ⟨hjd, _⟩ := List.getElem?_eq_some_iff.mp h1
        have hjl : j < its.length := by omega
        have at_ : ∀ (m : Nat) (hm : m < its.toArray.size) (z' : PyData), ds[m]? = some z' → ansU s.heap e its.toArray[m] = PyData.eqv z' e := by
          intro m hm z' hz'
          obtain ⟨u, e1, e2⟩ := ansU_at ra hn hz'
          have hml : m < its.length := by simpa using hm
          rw [List.getElem?_eq_getElem hml] at e1
          cases e1
          simpa using e2
        refine call_meets PySem.F.slot_list_index ⟨_, ho, rfl⟩ PySem.F.entry_list_index (PySem.F.args_list_index_2 _ _)
          (SeqAt.list_indexAt a its.toArray n _ _ uy (ansU s.heap e) j (by simpa using hjl) (by omega) ?_ ?_) ⟨ho, fun u hu' => ansU_eqAt r2 he.noDic hz (by show X.A.units + 1 + 64 < cLine; omega) ra hn u (by simpa using hu'), ?_⟩
        · rw [at_ j (by simpa using hjl) z h1]; exact h2
        · intro m hm hmj
          have hmd : m < ds.length := by omega
          rw [at_ m hm _ (List.getElem?_eq_getElem hmd)]
          exact h3 m _ hmj (List.getElem?_eq_getElem hmd)
        · exact ⟨.int _, H, I.tok _, ⟨_, rfl⟩, q _ _ (Same.refl H) rfl⟩
      · cases hg
    · cases hg
  | _ => cases hg
end
end Pv


/-! all expressions -/
namespace Pv
open PySem PySem.Spec L2
open PyProof.Rows hiding St

theorem obind {α β : Type} {a : Option α} {f : α → Option β} {r : β} (h : (a >>= f) = some r) : ∃ x, a = some x ∧ f x = some r := by
  cases a with
  | none => cases h
  | some x => exact ⟨x, rfl, h⟩
theorem omap {α β : Type} {a : Option α} {f : α → β} {r : β} (h : a.map f = some r) : ∃ x, a = some x ∧ f x = r := by
  cases a with
  | none => cases h
  | some x => exact ⟨x, rfl, Option.some.inj h⟩
def plainT : Expr → Bool
  | .BoolOp _ _ _ => false
  | .IfExp _ _ _ _ => false
  | .UnaryOp .Not _ _ => false
  | _ => true
section
variable {Gr : Gx} {G : GI} {Φ : Ph} {k : Nat} {L : Lc} {X : Cx} {W : WX}
theorem pt_of {e : Expr} {c : CE} (h : PE X e (tB X.K Gr W c)) (he : ∀ whole, isTrue e X.env whole = (do let v ← whole; standAt e.pos; holding [v] (truthy v)) := by intro _; rfl) : PT X e (tTst X.K Gr W (cTst c)) :=
  PT.imp (pt_val h he) fun σ H Q => tTst_E
theorem pe_B {e : Expr} {c : CE} (h : PE X e (tE X.K Gr W c)) : PE X e (tB X.K Gr W c) := PE.imp h fun σ H Q => tB_E
theorem pe_E {e : Expr} {c : CE} (h : PE X e (tF X.K Gr W c)) : PE X e (tE X.K Gr W c) := PE.imp h fun σ H Q => tE_F
theorem hu64 (ok : EOk Gr G Φ k L X W) : X.A.units + 64 < cLine := by have := ok.un; omega
theorem hu128 (ok : EOk Gr G Φ k L X W) : X.A.units + 128 < cLine := by have := ok.un; omega
theorem opc (ok : EOk Gr G Φ k L X W) : ∀ op : CmpOp, OpR X (compareOp op) (rD X.K (cmpF op))
  | .Eq => opd_eq (hu64 ok)
  | .NotEq => opd_ne (hu64 ok)
  | .Lt => opd_lt (hu64 ok)
  | .LtE => opd_le (hu64 ok)
  | .Gt => opd_gt (hu64 ok)
  | .GtE => opd_ge (hu64 ok)
  | .Is => opd_is
  | .IsNot => opd_isnt
  | .In => opd_in (hu128 ok)
  | .NotIn => opd_notIn (hu128 ok)
theorem behind_of {op : CmpOp} {b : Expr} (h : notSet b = true) : behindInMarks op b = false := by
  cases b <;> first | rfl | cases h
def frS (X : Cx) (Gr : Gx) (W : WX) (e : Expr) (fr : Bool) (c : CE) : Prop := PE X e (if fr = true then tF X.K Gr W c else tE X.K Gr W c) ∧ (plainT e = true → PT X e (tTst X.K Gr W (cTst c)))
theorem frS.e {e : Expr} {fr : Bool} {c : CE} (h : frS X Gr W e fr c) : PE X e (tE X.K Gr W c) := by
  obtain ⟨h, _⟩ := h
  cases fr with
  | true => exact pe_E h
  | false => exact h
theorem frS.of {e : Expr} {c : CE} (h : PE X e (tE X.K Gr W c)) (he : ∀ whole, isTrue e X.env whole = (do let v ← whole; standAt e.pos; holding [v] (truthy v)) := by intro _; rfl) : frS X Gr W e false c := ⟨h, fun _ => pt_of (pe_B h) he⟩
theorem frS.ofF {e : Expr} {c : CE} (h : PE X e (tF X.K Gr W c)) (he : ∀ whole, isTrue e X.env whole = (do let v ← whole; standAt e.pos; holding [v] (truthy v)) := by intro _; rfl) : frS X Gr W e true c := ⟨h, fun _ => pt_of (pe_B (pe_E h)) he⟩
end
def argIx (L : Lc) : Expr → Option Nat
  | .Name x _ => L.slot x
  | _ => none
structure Snd (Gr : Gx) (G : GI) (Φ : Ph) (n : Nat) : Prop where
  E : ∀ {k : Nat} {L : Lc} {X : Cx} {W : WX}, EOk Gr G Φ k L X W → ∀ (e : Expr) (fr : Bool) (c : CE), cE G Φ n L e = some (fr, c) → frS X Gr W e fr c
  B : ∀ {k : Nat} {L : Lc} {X : Cx} {W : WX}, EOk Gr G Φ k L X W → ∀ (e : Expr) (c : CE), cB G Φ n L e = some c → PE X e (tB X.K Gr W c) ∧ (plainT e = true → PT X e (tTst X.K Gr W (cTst c))) ∧ PE X e (tA1 X.K Gr W c (argIx L e))
  Es : ∀ {k : Nat} {L : Lc} {X : Cx} {W : WX}, EOk Gr G Φ k L X W → ∀ (es : List Expr) (cs : List CE), cEs G Φ n L es = some cs → PA X es (tEs X.K Gr W (cAll cs))
  As : ∀ {k : Nat} {L : Lc} {X : Cx} {W : WX}, EOk Gr G Φ k L X W → ∀ (es : List Expr) (cs : List CE) (os : List (Option Nat)), cAs G Φ n L es = some (cs, os) → es.all notStar = true → PA X es (tAs X.K Gr W cs os) ∧ os.length = es.length
  O : ∀ {k : Nat} {L : Lc} {X : Cx} {W : WX}, EOk Gr G Φ k L X W → ∀ (o : Option Expr) (c : Option CE), cO G Φ n L o = some c → PO X o (tO X.K Gr W c)
  Bo : ∀ {k : Nat} {L : Lc} {X : Cx} {W : WX}, EOk Gr G Φ k L X W → ∀ (op : BoolOp) (es : List Expr) (c : CE) (pos : Pos), cBo G Φ n L op es = some c → PE X (.BoolOp op es pos) (tE X.K Gr W c)
  T : ∀ {k : Nat} {L : Lc} {X : Cx} {W : WX}, EOk Gr G Φ k L X W → ∀ (e : Expr) (t : CT), cT G Φ n L e = some t → PT X e (tTst X.K Gr W t)
  To : ∀ {k : Nat} {L : Lc} {X : Cx} {W : WX}, EOk Gr G Φ k L X W → ∀ (op : BoolOp) (es : List Expr) (t : CT) (pos : Pos), cTo G Φ n L op es = some t → PW X (.BoolOp op es pos) (tTst X.K Gr W t)
  I : ∀ {k : Nat} {L : Lc} {X : Cx} {W : WX}, EOk Gr G Φ k L X W → ∀ (lent : Bool) (tg e : Expr) (c : CI), cI G Φ n L lent e = some c → PI X tg e (tIt X.K Gr W lent c)
  I0 : ∀ {k : Nat} {L : Lc} {X : Cx} {W : WX}, EOk Gr G Φ k L X W → ∀ (lent : Bool) (tg e : Expr) (c : CI), cI0 G Φ n L lent e = some c → PI X tg e (tIt X.K Gr W lent c)
theorem snd0 {Gr : Gx} {G : GI} {Φ : Ph} : Snd Gr G Φ 0 where
  E := fun ok e fr c h => by cases h
  B := fun ok e c h => by cases h
  Es := fun ok e c h => by cases h
  As := fun ok e c os h => by cases h
  O := fun ok e c h => by cases h
  Bo := fun ok op es c pos h => by cases h
  T := fun ok e c h => by cases h
  To := fun ok op es c pos h => by cases h
  I := fun ok l tg e c h => by cases h
  I0 := fun ok l tg e c h => by cases h
section
variable {Gr : Gx} {G : GI} {Φ : Ph} {n k : Nat} {L : Lc} {X : Cx} {W : WX}
theorem E_name (S : Snd Gr G Φ n) (ok : EOk Gr G Φ k L X W) {x : Str} {p : Pos} {fr : Bool} {c : CE} (h : cE G Φ (n + 1) L (.Name x p) = some (fr, c)) : frS X Gr W (.Name x p) fr c := by
  have h : (match L.slot x with | some i => some (false, cVar i) | none => if L.glob x = true then (G.cons.lookup x).map fun d => (false, cK d) else none) = some (fr, c) := h
  split at h
  · rename_i i hi
    cases h
    exact .of (sn_var ok hi)
  · split at h
    · rename_i hg
      obtain ⟨d, h1, h2⟩ := omap h
      cases h2
      exact .of (sn_con ok hg h1)
    · cases h
theorem E_const (S : Snd Gr G Φ n) (ok : EOk Gr G Φ k L X W) {v : Const} {j : Nat} {p : Pos} {fr : Bool} {c : CE} (h : cE G Φ (n + 1) L (.Constant v j p) = some (fr, c)) : frS X Gr W (.Constant v j p) fr c := by
  cases v with
  | int i => cases h; exact .of (sn_k pe_int fun _ _ => rfl)
  | bool i => cases h; exact .of (sn_k pe_bl fun _ _ => rfl)
  | str i => cases h; exact .of (sn_k pe_str fun _ _ => rfl)
  | none => cases h; exact .of (sn_k pe_non fun _ _ => rfl)
  | _ => cases h
theorem E_bin (S : Snd Gr G Φ n) (ok : EOk Gr G Φ k L X W) {a b : Expr} {op : Operator} {p : Pos} {fr : Bool} {c : CE} (h : cE G Φ (n + 1) L (.BinOp a op b p) = some (fr, c)) : frS X Gr W (.BinOp a op b p) fr c := by
  have rest : ∀ {g : PyData → PyData → R PyData}, OpR X (binaryOp op) (rD X.K g) → (cB G Φ n L a >>= fun ca => cB G Φ n L b >>= fun cb => some (true, c2 g ca cb)) = some (fr, c) → frS X Gr W (.BinOp a op b p) fr c := by
    intro g ho h
    obtain ⟨ca, h1, h⟩ := obind h
    obtain ⟨cb, h2, h⟩ := obind h
    cases h
    exact .ofF (PE.imp (pe_op ho (S.B ok a ca h1).1 (S.B ok b cb h2).1) fun σ H Q => tF_c2)
  cases op with
  | Mult =>
    have h : (cE G Φ n L a >>= fun x => cB G Φ n L b >>= fun cb => if x.1 = true then some (true, c2 mulD x.2 cb) else some (true, c2 mulI x.2 cb)) = some (fr, c) := h
    obtain ⟨⟨fa, ca⟩, h1, h⟩ := obind h
    obtain ⟨cb, h2, h⟩ := obind h
    have ea := S.E ok a fa ca h1
    have eb := (S.B ok b cb h2).1
    cases fa with
    | true =>
      cases h
      exact .ofF (PE.imp (pe_op opd_mul ea.1 eb) fun σ H Q => tF_mulD)
    | false =>
      cases h
      exact .ofF (PE.imp (pe_op opd_mul (pe_B ea.e) eb) fun σ H Q => tF_mulI)
  | Add => exact rest opd_add h
  | Sub => exact rest opd_sub h
  | FloorDiv => exact rest opd_fdiv h
  | Mod => exact rest opd_mod h
  | Pow => exact rest opd_pow h
  | _ => cases h
theorem E_un (S : Snd Gr G Φ n) (ok : EOk Gr G Φ k L X W) {a : Expr} {op : UnaryOp} {p : Pos} {fr : Bool} {c : CE} (h : cE G Φ (n + 1) L (.UnaryOp op a p) = some (fr, c)) : frS X Gr W (.UnaryOp op a p) fr c := by
  cases op with
  | USub =>
    obtain ⟨ca, h1, h⟩ := obind (show (cB G Φ n L a >>= fun ca => some (false, c1 negD ca)) = some (fr, c) from h)
    cases h
    exact .of (pe_E (PE.imp (pe_un opd_neg (S.B ok a ca h1).1) fun σ H Q => tF_c1))
  | Not =>
    obtain ⟨ca, h1, h⟩ := obind (show (cB G Φ n L a >>= fun ca => some (false, cNotV ca)) = some (fr, c) from h)
    cases h
    exact ⟨PE.imp (pe_not (S.B ok a ca h1).1) fun σ H Q => tE_notV, fun z => by cases z⟩
  | _ => cases h
theorem E_cmp (S : Snd Gr G Φ n) (ok : EOk Gr G Φ k L X W) {a : Expr} {ops : List CmpOp} {bs : List Expr} {p : Pos} {fr : Bool} {c : CE} (h : cE G Φ (n + 1) L (.Compare a ops bs p) = some (fr, c)) : frS X Gr W (.Compare a ops bs p) fr c := by
  match ops, bs, h with
  | [op], [b], h =>
    have h : (if notSet b = true then (cB G Φ n L a >>= fun ca => cB G Φ n L b >>= fun cb => some (false, c2 (cmpF op) ca cb)) else none) = some (fr, c) := h
    split at h
    · rename_i hb
      obtain ⟨ca, h1, h⟩ := obind h
      obtain ⟨cb, h2, h⟩ := obind h
      cases h
      have ea := (S.B ok a ca h1).1
      have eb := (S.B ok b cb h2).1
      exact ⟨PE.imp (pe_cmpR (opc ok op) ea eb (behind_of hb)) fun σ H Q => tE_c2, fun _ => PT.imp (pt_cmpR (opc ok op) ea eb (behind_of hb)) fun σ H Q h => tE_c2 (tB_E (tTst_E h))⟩
    · cases h
  | [op, op'], [b, d], h =>
    have h : (if (notSet b && notSet d) = true then (cB G Φ n L a >>= fun ca => cB G Φ n L b >>= fun cb => cB G Φ n L d >>= fun cc => some (false, cCh (cmpF op) (cmpF op') ca cb cc)) else none) = some (fr, c) := h
    split at h
    · rename_i hb
      rw [Bool.and_eq_true] at hb
      obtain ⟨ca, h1, h⟩ := obind h
      obtain ⟨cb, h2, h⟩ := obind h
      obtain ⟨cc, h3, h⟩ := obind h
      cases h
      have ea := (S.B ok a ca h1).1
      have eb := (S.B ok b cb h2).1
      have ec := (S.B ok d cc h3).1
      have hm : lastMarks [op, op'] [b, d] = false := behind_of hb.2
      exact ⟨PE.imp (pe_chain (opc ok op) (opc ok op') ea eb ec hm) fun σ H Q => tE_ch, fun _ => PT.imp (pt_chain (opc ok op) (opc ok op') ea eb ec hm) fun σ H Q h => tE_ch (tB_E (tTst_E h))⟩
    · cases h
theorem E_if (S : Snd Gr G Φ n) (ok : EOk Gr G Φ k L X W) {t a b : Expr} {p : Pos} {fr : Bool} {c : CE} (h : cE G Φ (n + 1) L (.IfExp t a b p) = some (fr, c)) : frS X Gr W (.IfExp t a b p) fr c := by
  obtain ⟨ct, h1, h⟩ := obind (show (cT G Φ n L t >>= fun ct => cE G Φ n L a >>= fun ca => cE G Φ n L b >>= fun cb => some (false, cIfE ct ca.2 cb.2)) = some (fr, c) from h)
  obtain ⟨⟨fa, ca⟩, h2, h⟩ := obind h
  obtain ⟨⟨fb, cb⟩, h3, h⟩ := obind h
  cases h
  exact ⟨PE.imp (pe_ifExp (S.T ok t ct h1) (S.E ok a fa ca h2).e (S.E ok b fb cb h3).e) fun σ H Q => tE_ifE, fun z => by cases z⟩
def slc (e : Expr) : Bool := match e with | .Slice _ _ _ _ => true | _ => false
theorem E_ix (S : Snd Gr G Φ n) (ok : EOk Gr G Φ k L X W) {v i : Expr} {p : Pos} {fr : Bool} {c : CE} (hi : PlainIx i) (h : (cB G Φ n L v >>= fun cv => cB G Φ n L i >>= fun ci => some (false, c2 ixD cv ci)) = some (fr, c)) : frS X Gr W (.Subscript v i p) fr c := by
  obtain ⟨cv, h1, h⟩ := obind h
  obtain ⟨ci, h2, h⟩ := obind h
  cases h
  exact .of (PE.imp (pe_ix opd_ix (S.B ok v cv h1).1 (S.B ok i ci h2).1 hi) fun σ H Q => tE_ix)
theorem E_sub (S : Snd Gr G Φ n) (ok : EOk Gr G Φ k L X W) {v i : Expr} {p : Pos} {fr : Bool} {c : CE} (h : cE G Φ (n + 1) L (.Subscript v i p) = some (fr, c)) : frS X Gr W (.Subscript v i p) fr c := by
  cases i with
  | Slice lo hi st sp =>
    cases st with
    | none =>
      obtain ⟨cv, h1, h⟩ := obind (show (cB G Φ n L v >>= fun cv => cO G Φ n L lo >>= fun cl => cO G Φ n L hi >>= fun ch => some (true, cSl cv cl ch)) = some (fr, c) from h)
      obtain ⟨cl, h2, h⟩ := obind h
      obtain ⟨ch, h3, h⟩ := obind h
      cases h
      exact .ofF (PE.imp (pe_slice opd_sl (S.B ok v cv h1).1 (S.O ok lo cl h2) (S.O ok hi ch h3)) fun σ H Q => tF_sl)
    | some z =>
      have h5 : (if revSl lo hi z = true then (cB G Φ n L v >>= fun cv => some (true, c1 revD cv)) else none) = some (fr, c) := h
      clear h
      split at h5
      · rename_i hr
        obtain ⟨cv, h1, h5⟩ := obind h5
        cases h5
        unfold revSl at hr
        split at hr
        · have hr := of_decide_eq_true hr
          subst hr
          exact .ofF (PE.imp (pe_back (S.B ok v cv h1).1) fun σ H Q => tF_c1)
        · cases hr
      · cases h5
  | _ => exact E_ix S ok (fun _ _ => rfl) h

theorem E_tup (S : Snd Gr G Φ n) (ok : EOk Gr G Φ k L X W) {es : List Expr} {j : Nat} {p : Pos} {fr : Bool} {c : CE} (h : cE G Φ (n + 1) L (.Tuple es j p) = some (fr, c)) : frS X Gr W (.Tuple es j p) fr c := by
  obtain ⟨cs, h1, h⟩ := obind (show (cEs G Φ n L es >>= fun cs => some (false, cTup cs)) = some (fr, c) from h)
  cases h
  exact .of (PE.imp (pe_tup (S.Es ok es cs h1)) fun σ H Q => tE_tup)
theorem E_lst (S : Snd Gr G Φ n) (ok : EOk Gr G Φ k L X W) {es : List Expr} {p : Pos} {fr : Bool} {c : CE} (h : cE G Φ (n + 1) L (.List es p) = some (fr, c)) : frS X Gr W (.List es p) fr c := by
  obtain ⟨cs, h1, h⟩ := obind (show (cEs G Φ n L es >>= fun cs => some (true, cLst cs)) = some (fr, c) from h)
  cases h
  exact .ofF (PE.imp (pe_lst (S.Es ok es cs h1)) fun σ H Q => tF_lst)
theorem E_attr (S : Snd Gr G Φ n) (ok : EOk Gr G Φ k L X W) {o : Expr} {f : Str} {p : Pos} {fr : Bool} {c : CE} (h : cE G Φ (n + 1) L (.Attribute o f p) = some (fr, c)) : frS X Gr W (.Attribute o f p) fr c := by
  obtain ⟨i, h1, h⟩ := omap (show ((exnOf L o).map fun i => (false, cFld G i f)) = some (fr, c) from h)
  cases h
  exact .of (sn_fld ok h1)
/-- the parts of a comprehension -/
def lcParts (G : GI) (Φ : Ph) (n : Nat) (L : Lc) (elt tg it : Expr) (ifs : List Expr) (sc : Scope) : Option (Bool × CE) :=
  cI G Φ n L true it >>= fun ci =>
    if blkC L.N { kind := .function, names := L.nm, isGenerator := false, isCoroutine := false } sc (ownOf L.N sc.names) = true then
      tgOf { N := L.N, nm := sc.names, calm := true, en := none } tg >>= fun g =>
        if (g.ixs.all fun i => decide (i ∈ (ownOf L.N sc.names).map (·.2))) = true then
          (match ifs with | [] => some tYesC | [c] => cT G Φ n { N := L.N, nm := sc.names, calm := true, en := none } c | _ => none) >>= fun t =>
            cE G Φ n { N := L.N, nm := sc.names, calm := true, en := none } elt >>= fun ce => some (true, cComp ci ((ownOf L.N sc.names).map (·.2)) g t ce.2)
        else none
    else none
theorem tTst_yes {K : PySem.W.Frag} {σ : St} {H : Hp} {Q : Bool → Hp → Prop} (h : tTst K Gr W tYesC σ H Q) : tYes σ H Q := by
  obtain ⟨F, H₀, M, ρ, re, p⟩ := h
  exact p true H (Same.refl H) rfl
theorem PTs.imp {ifs : List Expr} {t t' : TT} (h : PTs X ifs t) (hm : ∀ σ H Q, t' σ H Q → t σ H Q) : PTs X ifs t' := ⟨fun pins s σ H Q I q => h.run pins s σ H Q I (hm σ H Q q)⟩
theorem lc_parts (S : Snd Gr G Φ n) (ok : EOk Gr G Φ k L X W) (hcalm : L.calm = true) {elt tg it : Expr} {ifs : List Expr} {sc : Scope} {fr : Bool} {c : CE} (h : lcParts G Φ n L elt tg it ifs sc = some (fr, c)) :
    ∃ ci g t e, fr = true ∧ c = cComp ci ((ownOf L.N sc.names).map (·.2)) g t e ∧ (∀ i ∈ g.ixs, i ∈ (ownOf L.N sc.names).map (·.2)) ∧ PI X tg it (tIt X.K Gr W true ci) ∧ BlkOk X.N X.env.scope sc (ownOf L.N sc.names) ∧
      (∀ (s : Shared) (H : Hp) (C : Addr) (cl : List (Str × Addr)) (fp : List Addr), PG (X.blk s H sc (compEnvC sc cl C X.env) fp) tg (tTg X.K g)) ∧
      (∀ (s : Shared) (H : Hp) (C : Addr) (cl : List (Str × Addr)) (fp : List Addr), PTs (X.blk s H sc (compEnvC sc cl C X.env) fp) ifs (tTst X.K Gr W0 t)) ∧
      (∀ (s : Shared) (H : Hp) (C : Addr) (cl : List (Str × Addr)) (fp : List Addr), PE (X.blk s H sc (compEnvC sc cl C X.env) fp) elt (tE X.K Gr W0 e)) := by
  unfold lcParts at h
  obtain ⟨ci, h1, h⟩ := obind h
  split at h
  · rename_i hb
    obtain ⟨g, h2, h⟩ := obind h
    split at h
    · rename_i hg
      obtain ⟨t, h3, h⟩ := obind h
      obtain ⟨ce, h4, h⟩ := obind h
      cases h
      have bo := blk_of ok.nm hb
      refine ⟨ci, g, t, ce.2, rfl, rfl, fun i hi => ?_, S.I ok true tg it ci h1, bo, fun s H C cl fp => ?_, fun s H C cl fp => ?_, fun s H C cl fp => ?_⟩
      · exact of_decide_eq_true (List.all_eq_true.mp hg i hi)
      · have ok' := ok.blk hcalm (sc := sc) (s := s) (H := H) (C := C) (cl := cl) (fp := fp)
        exact tg_pg ok'.nm (ok'.calm rfl) h2
      · have ok' := ok.blk hcalm (sc := sc) (s := s) (H := H) (C := C) (cl := cl) (fp := fp)
        match ifs, h3 with
        | [], h3 => cases h3; exact PTs.imp pts_nil fun σ H Q => tTst_yes
        | [c], h3 => exact pts_one (S.T ok' c t h3)
      · have ok' := ok.blk hcalm (sc := sc) (s := s) (H := H) (C := C) (cl := cl) (fp := fp)
        exact (S.E ok' elt ce.1 ce.2 h4).e
    · cases h
  · cases h
theorem E_lc (S : Snd Gr G Φ n) (ok : EOk Gr G Φ k L X W) {elt : Expr} {gs : List Comprehension} {sc : Scope} {p : Pos} {fr : Bool} {c : CE} (h : cE G Φ (n + 1) L (.ListComp elt gs sc p) = some (fr, c)) : frS X Gr W (.ListComp elt gs sc p) fr c := by
  match gs, h with
  | [⟨tg, it, ifs, ia⟩], h =>
    have h5 : (if ia = 0 ∧ (L.calm && notSet it) = true then lcParts G Φ n L elt tg it ifs sc else none) = some (fr, c) := h
    clear h
    split at h5
    · rename_i hc
      obtain ⟨rfl, hc⟩ := hc
      rw [Bool.and_eq_true] at hc
      obtain ⟨ci, g, t, e, rfl, rfl, a1, a2, a3, a4, a5, a6⟩ := lc_parts S ok hc.1 h5
      exact .ofF (PE.imp (pe_lc (ok.calm hc.1) ok.nm.nodup a2 a3 a4 a5 a6 (folded_of hc.2)) fun σ H Q => tF_comp a1)
    · cases h5
/-! calls -/
theorem all1 {a : Expr} (h : [a].all notStar = true) : notStar a = true := by simpa using h
theorem bi_call {a : Expr} {c : CE} {x : Str} {id : String} {g : PyData → R PyData} {p pos : Pos} (ok : EOk Gr G Φ k L X W) (hr : CallR X (.builtin id) (rC1 X.K g)) (hg : L.glob x = true) (hm : x ∈ biNames) (hv : bootBuiltins x = some (.builtin id)) (hs : notStar a = true) (ha : PE X a (tB X.K Gr W c)) :
    PE X (.Call (.Name x p) [a] [] pos) (tF X.K Gr W (c1 g c)) := by
  have gl := glob_ok ok.nm hg
  refine PE.imp (pe_callB hr gl.gl (ok.gl.bi _ hm) hv (pa_cons ha pa_nil (star_cons hs)) gl.nn gl.d1 (star_cons hs) rfl) fun σ H Q h => ?_
  obtain ⟨F, H₀, M, ρ, re, p⟩ := h
  refine ⟨F, H₀, M, ρ, re, p.bind fun x v H1 s1 r1 p1 => ?_⟩
  obtain ⟨r, e, q⟩ := p1.ok_of
  exact ⟨v, rfl, _, x, r, (re.same s1).trk, r1, e, fun w H' s' n => q w H' s' (n.older s1)⟩
theorem ty_call {a : Expr} {c : CE} {x : Str} {id : String} {g : PyData → R PyData} {p pos : Pos} (ok : EOk Gr G Φ k L X W) (hr : CallR X (.type id) (rC1 X.K g)) (hg : L.glob x = true) (hm : x ∈ biNames) (hv : bootBuiltins x = some (.type id)) (hs : notStar a = true) (ha : PE X a (tB X.K Gr W c)) :
    PE X (.Call (.Name x p) [a] [] pos) (tF X.K Gr W (c1 g c)) := by
  have gl := glob_ok ok.nm hg
  refine PE.imp (pe_callTy hr gl.gl (ok.gl.bi _ hm) hv (pa_cons ha pa_nil (star_cons hs)) gl.nn gl.d1 (star_cons hs) rfl) fun σ H Q h => ?_
  obtain ⟨F, H₀, M, ρ, re, p⟩ := h
  refine ⟨F, H₀, M, ρ, re, p.bind fun x v H1 s1 r1 p1 => ?_⟩
  obtain ⟨r, e, q⟩ := p1.ok_of
  exact ⟨v, rfl, _, x, r, (re.same s1).trk, r1, e, fun w H' s' n => q w H' s' (n.older s1)⟩
theorem bi1_call {a : Expr} {c : CE} {x : Str} {fr : Bool} {g : PyData → R PyData} {p pos : Pos} (ok : EOk Gr G Φ k L X W) (h : bi1 L.calm x = some (fr, g)) (hg : L.glob x = true) (hs : notStar a = true) (ha : PE X a (tB X.K Gr W c)) :
    frS X Gr W (.Call (.Name x p) [a] [] pos) fr (c1 g c) := by
  have both : PE X (.Call (.Name x p) [a] [] pos) (tF X.K Gr W (c1 g c)) → frS X Gr W (.Call (.Name x p) [a] [] pos) fr (c1 g c) := fun hh => by
    cases fr with
    | true => exact .ofF hh
    | false => exact .of (pe_E hh)
  apply both
  unfold bi1 at h
  split at h
  · rename_i e; subst e; cases h; exact bi_call ok opd_len hg (by decide) (by decide +kernel) hs ha
  split at h
  · rename_i e; subst e; cases h; exact ty_call ok opd_list hg (by decide) (by decide +kernel) hs ha
  split at h
  · rename_i e; subst e; cases h; exact ty_call ok opd_tuple hg (by decide) (by decide +kernel) hs ha
  split at h
  · rename_i e; subst e; cases h; exact ty_call ok opd_int hg (by decide) (by decide +kernel) hs ha
  split at h
  · cases h
  rename_i hcalm
  have hc := ok.calm (by simpa using hcalm)
  split at h
  · rename_i e; subst e; cases h; exact bi_call ok (opd_sorted (hu128 ok)) hg (by decide) (by decide +kernel) hs ha
  split at h
  · rename_i e; subst e; cases h; exact bi_call ok (opd_sum hc) hg (by decide) (by decide +kernel) hs ha
  split at h
  · rename_i e; subst e; cases h; exact bi_call ok (opd_maxL hc) hg (by decide) (by decide +kernel) hs ha
  split at h
  · rename_i e; subst e; cases h; exact bi_call ok (opd_minL hc) hg (by decide) (by decide +kernel) hs ha
  split at h
  · rename_i e; subst e; cases h; exact bi_call ok opd_abs hg (by decide) (by decide +kernel) hs ha
  · cases h
theorem bi2_call {a b : Expr} {c d : CE} {x : Str} {g : PyData → PyData → R PyData} {p pos : Pos} (ok : EOk Gr G Φ k L X W) (h : bi2 L.calm x = some g) (hg : L.glob x = true) (hs : notStar a = true) (hs' : notStar b = true) (ha : PE X a (tB X.K Gr W c)) (hb : PE X b (tB X.K Gr W d)) :
    PE X (.Call (.Name x p) [a, b] [] pos) (tE X.K Gr W (c2 g c d)) := by
  have gl := glob_ok ok.nm hg
  have go : ∀ {id : String}, CallR X (.builtin id) (rC2 X.K g) → x ∈ biNames → bootBuiltins x = some (.builtin id) → PE X (.Call (.Name x p) [a, b] [] pos) (tE X.K Gr W (c2 g c d)) := by
    intro id hr hm hv
    refine PE.imp (pe_callB hr gl.gl (ok.gl.bi _ hm) hv (pa_cons ha (pa_cons hb pa_nil (star_cons hs')) (star_cons hs)) gl.nn gl.d1 (star_cons hs) (by rw [star_cons hs']; rfl)) fun σ H Q h => ?_
    obtain ⟨F, H₀, M, ρ, re, p⟩ := tE_F h
    refine ⟨F, H₀, M, ρ, re, p.bind fun x v H1 s1 r1 p1 => ⟨F, H₀, M, ρ, re.same s1, p1.bind fun y u H2 s2 r2 p2 => ?_⟩⟩
    obtain ⟨r, e, q⟩ := p2.ok_of
    exact ⟨v, u, rfl, _, x, y, r, (re.same (s1.trans s2)).trk, r1.same s2, r2, e, fun w H' s' n => q w H' s' (n.older (s1.trans s2))⟩
  unfold bi2 at h
  split at h
  · cases h
  rename_i hcalm
  have hc := ok.calm (by simpa using hcalm)
  split at h
  · rename_i e; subst e; cases h; exact go (opd_max2 hc) (by decide) (by decide +kernel)
  split at h
  · rename_i e; subst e; cases h; exact go (opd_min2 hc) (by decide) (by decide +kernel)
  · cases h
theorem tB_list {K : PySem.W.Frag} {F : Addr → Prop} {H : Hp} {ds : List PyData} {x : V} (h : Rb K F H (.list ds) x) : tyV K "list" x H := by
  obtain ⟨a, vs, rfl, q, _⟩ := h
  rcases q with q | ⟨u, q⟩
  · exact .inl ⟨rfl, vs, .inl (.inl q)⟩
  · exact .inl ⟨rfl, vs, .inl (.inr ⟨u, q⟩)⟩
theorem me1_call {o a : Expr} {m : Str} {g : PyData → PyData → R PyData} {c d : CE} {apos cpos : Pos} (ok : EOk Gr G Φ k L X W) (h : me1 m = some g) (hs : notStar a = true) (hp : plainB o = true) (hl : (apos.endLine == cpos.line) = true) (ho : PE X o (tB X.K Gr W c)) (ha : PE X a (tB X.K Gr W d)) :
    PE X (.Call (.Attribute o m apos) [a] [] cpos) (tE X.K Gr W (cMe g c d)) := by
  have hbase : ∀ m, attributeBase o m X.env (eval o X.env) = eval o X.env := by
    cases o <;> first | (intro m; rfl) | cases hp
  have key : ∀ {id : String}, Slot "list" m id → typeOf (.builtin id) = pure (.type "method_descriptor") → MtR X id (rM X.K g) → PE X (.Call (.Attribute o m apos) [a] [] cpos) (tE X.K Gr W (cMe g c d)) := by
    intro id sl ty mt
    refine PE.imp (pe_bm PySem.F.plainAttrs_list sl ty mt ho (pa_cons ha pa_nil (star_cons hs)) (hbase m) (by rw [star_cons hs]; rfl) hl (star_cons hs) rfl) fun σ H Q h => ?_
    obtain ⟨F, H₀, M, ρ, re, p⟩ := tE_F h
    refine ⟨F, H₀, M, ρ, re, p.bind fun x v H1 s1 r1 p1 => ?_⟩
    cases x with
    | list ds =>
      refine ⟨tB_list r1, F, H₀, M, ρ, re.same s1, p1.bind fun y u H2 s2 r2 p2 => ?_⟩
      obtain ⟨r, e, q⟩ := p2.ok_of
      exact ⟨u, rfl, _, _, y, r, (re.same (s1.trans s2)).trk, r1.same s2, r2, e, fun w H' s' n => q w H' s' (n.older (s1.trans s2))⟩
    | _ => exact False.elim p1
  unfold me1 at h
  split at h
  · rename_i e; subst e; cases h; exact key PySem.F.slot_list_count PySem.F.type_list_count (mtd_count (hu128 ok))
  split at h
  · rename_i e; subst e; cases h; exact key PySem.F.slot_list_index PySem.F.type_list_index (mtd_index (hu128 ok))
  · cases h

theorem isTys_pe (ok : EOk Gr G Φ k L X W) {a b : Expr} {c : CE} {ts : List String} {p pos : Pos} (h : isTys L b = some ts) (hg : L.glob "isinstance" = true) (hs : notStar a = true) (ha : PE X a (tB X.K Gr W c)) : PE X (.Call (.Name "isinstance" p) [a, b] [] pos) (tE X.K Gr W (c1 (isiD ts) c)) := by
  cases b with
  | Tuple es kk tp =>
    have h : (if es.length ≤ 100 then (es.mapM (tysOf L)).map fun l => l.flatten else none) = some ts := h
    split at h
    · rename_i hz
      obtain ⟨ls, h1, h2⟩ := omap h
      subst h2
      exact sn_isiN ok hg hs ha h1 hz
    · cases h
  | Name y py => exact sn_isi1 ok hg hs ha h
  | _ => cases h
def callBi (G : GI) (Φ : Ph) (n : Nat) (L : Lc) (x : Str) : List Expr → Option (Bool × CE)
  | [a] => (match rgOf L x a with
    | some b => (cB G Φ n L b >>= fun cb => some (decide (x = ("list" : Str)), cRgS (decide (x = ("list" : Str))) cb))
    | none => (bi1 L.calm x >>= fun y => cB G Φ n L a >>= fun ca => some (y.1, c1 y.2 ca)))
  | [a, b] => if x = ("isinstance" : Str) then (match exnOf L a with
    | some i => (exTys G L b).map fun ts => (false, cIsE G i ts)
    | none => (isTys L b >>= fun ts => cB G Φ n L a >>= fun ca => some (false, c1 (isiD ts) ca)))
    else (bi2 L.calm x >>= fun g => cB G Φ n L a >>= fun ca => cB G Φ n L b >>= fun cb => some (false, c2 g ca cb))
  | _ => none
theorem rgV_rangeL {K : PySem.W.Frag} {F : Addr → Prop} {H : Hp} (b : Int) : Rps K F H (rangeL 0 b) (rgV 0 b) := by
  unfold rangeL rgV
  generalize List.range (b - 0).toNat = l
  induction l with
  | nil => rfl
  | cons a l ih => exact ⟨_, _, rfl, rfl, ih⟩
theorem rg_call (S : Snd Gr G Φ n) (ok : EOk Gr G Φ k L X W) {x : Str} {p pos : Pos} {a b : Expr} {cb : CE} {fr : Bool} {c : CE} (hg : L.glob x = true) (hb : rgOf L x a = some b) (h2 : cB G Φ n L b = some cb) (h9 : some (decide (x = ("list" : Str)), cRgS (decide (x = ("list" : Str))) cb) = some (fr, c)) : frS X Gr W (.Call (.Name x p) [a] [] pos) fr c := by
  have e : ∃ py pp, a = .Call (.Name "range" py) [b] [] pp ∧ (x = ("tuple" : Str) ∨ x = ("list" : Str)) ∧ L.glob "range" = true ∧ L.calm = true ∧ notStar b = true := by
    unfold rgOf at hb
    split at hb
    · split at hb
      · rename_i hh
        cases hb
        obtain ⟨h1, rfl, h3, h4, h5⟩ := hh
        exact ⟨_, _, rfl, h1, h3, h4, h5⟩
      · cases hb
    · cases hb
  obtain ⟨py, pp, rfl, hx, hr, hcl, hs⟩ := e
  have gr := glob_ok ok.nm hr
  have gx := glob_ok ok.nm hg
  have pr := prg_1 (p := py) (pos := pp) gr.gl (ok.gl.bi _ (by decide)) (S.B ok b cb h2).1 (star_cons hs)
  have go : ∀ {l : Bool} {σ : St} {H : Hp} {Q : VK}, tF X.K Gr W (cRgS l cb) σ H Q → tRg1 (tB X.K Gr W cb) σ H fun i j H1 => RgOk i j ∧ ∀ q, H1 q = none → Q (.ref q) (upd H1 q (if l = true then .lst (rgV i j) else .tup (rgV i j))) := by
    intro l σ H Q h
    obtain ⟨F, H₀, M, ρ, re, q⟩ := h
    refine ⟨F, H₀, M, ρ, re, ?_⟩
    unfold cRgS cRange1 at q
    cases hc : cb ρ with
    | ok d =>
      rw [hc] at q
      intro v H1 s r
      cases hi : intB d with
      | ok i =>
        rw [R.bind_ok, hi] at q
        obtain ⟨rfl, h1, h2⟩ := intB_ok hi
        cases rd_ints r
        simp only [quiet, R.bind_ok] at q
        split at q
        · rename_i hz
          rw [R.bind_ok] at q
          refine ⟨i, rfl, ⟨by omega, by omega, h1, h2, by omega⟩, fun a na => ?_⟩
          have sm := same_upd (o := if l = true then HO.lst (rgV 0 i) else HO.tup (rgV 0 i)) na
          refine q _ _ (s.trans sm) ?_
          cases l with
          | true => exact Nw.older s (Nw.mk na (rgV_rangeL i))
          | false => exact ⟨a, _, rfl, SqT.of upd_same, Rps.same (rgV_rangeL i) sm⟩
        · exact False.elim q
      | exc n es => rw [R.bind_ok, hi] at q; exact False.elim q
      | bad => rw [R.bind_ok, hi] at q; exact False.elim q
    | exc n es => rw [hc] at q; exact q
    | bad => rw [hc] at q; exact q
  rcases hx with rfl | rfl
  · cases h9
    exact .of (pe_E (PE.imp (pe_tupRg (p := p) (pos := pos) (ok.calm hcl) gx.gl (ok.gl.bi _ (by decide)) pr) fun σ H Q h => go (l := false) h))
  · cases h9
    exact .ofF (PE.imp (pe_listRg (p := p) (pos := pos) (ok.calm hcl) gx.gl (ok.gl.bi _ (by decide)) pr) fun σ H Q h => go (l := true) h)
theorem E_call (S : Snd Gr G Φ n) (ok : EOk Gr G Φ k L X W) {f : Expr} {as : List Expr} {ks : List Keyword} {pos : Pos} {fr : Bool} {c : CE} (h : cE G Φ (n + 1) L (.Call f as ks pos) = some (fr, c)) : frS X Gr W (.Call f as ks pos) fr c := by
  cases f with
  | Name x p =>
    cases ks with
    | cons => cases h
    | nil =>
      have h0 := h
      clear h
      have h : (if L.glob x = true ∧ as.all notStar = true then (match fnIx x G.fns 0 with
        | some (k, fi) => if as.length = fi.ps.length ∧ L.calm = true ∧ as.length ≠ 0 then (cAs G Φ n L as >>= fun y => some (false, cCall Φ k y.1 y.2)) else none
        | none => callBi G Φ n L x as) else none) = some (fr, c) := h0
      clear h0
      split at h
      · rename_i hg
        obtain ⟨hg, hst⟩ := hg
        split at h
        · rename_i i fi hf
          split at h
          · rename_i hl
            obtain ⟨⟨cs, os⟩, h1, h⟩ := obind h
            cases h
            obtain ⟨a1, a2⟩ := S.As ok as cs os h1 hst
            cases as with
            | nil => exact absurd rfl hl.2.2
            | cons e es => exact .of (sn_call ok hl.2.1 hg hf hl.1 hst a2 a1)
          · cases h
        · match as, h, hst with
          | [a], h0, hst =>
            have h : (match rgOf L x a with
    | some b => (cB G Φ n L b >>= fun cb => some (decide (x = ("list" : Str)), cRgS (decide (x = ("list" : Str))) cb))
    | none => (bi1 L.calm x >>= fun y => cB G Φ n L a >>= fun ca => some (y.1, c1 y.2 ca))) = some (fr, c) := h0
            clear h0
            split at h
            · rename_i b hb
              obtain ⟨cb, h2, h⟩ := obind h
              have h9 := h
              clear h
              exact rg_call S ok hg hb h2 h9
            obtain ⟨⟨fr', g⟩, h1, h⟩ := obind h
            obtain ⟨ca, h2, h⟩ := obind h
            cases h
            exact bi1_call ok h1 hg (all1 hst) (S.B ok a ca h2).1
          | [a, b], h0, hst =>
            have hst : (notStar a && (notStar b && true)) = true := hst
            rw [Bool.and_true, Bool.and_eq_true] at hst
            have h : (if x = ("isinstance" : Str) then (match exnOf L a with
            | some i => (exTys G L b).map fun ts => (false, cIsE G i ts)
            | none => (isTys L b >>= fun ts => cB G Φ n L a >>= fun ca => some (false, c1 (isiD ts) ca)))
            else (bi2 L.calm x >>= fun g => cB G Φ n L a >>= fun ca => cB G Φ n L b >>= fun cb => some (false, c2 g ca cb))) = some (fr, c) := h0
            clear h0
            split at h
            · rename_i hx
              have h9 := h
              clear h
              subst hx
              split at h9
              · rename_i i hi
                obtain ⟨ts, h1, h2⟩ := omap h9
                cases h2
                exact .of (sn_isE ok hg hi h1)
              · obtain ⟨ts, h1, h9⟩ := obind h9
                obtain ⟨ca, h2, h9⟩ := obind h9
                cases h9
                exact .of (isTys_pe ok h1 hg hst.1 (S.B ok a ca h2).1)
            · obtain ⟨g, h1, h⟩ := obind h
              obtain ⟨ca, h2, h⟩ := obind h
              obtain ⟨cb, h3, h⟩ := obind h
              cases h
              exact .of (bi2_call ok h1 hg hst.1 hst.2 (S.B ok a ca h2).1 (S.B ok b cb h3).1)
      · cases h
  | Attribute o m apos =>
    cases ks with
    | cons => cases h
    | nil =>
      match as, h with
      | [a], h =>
        have h : (if notStar a = true ∧ plainB o = true ∧ (apos.endLine == pos.line) = true then (me1 m >>= fun g => cB G Φ n L o >>= fun co => cB G Φ n L a >>= fun ca => some (false, cMe g co ca)) else none) = some (fr, c) := h
        split at h
        · rename_i hc
          obtain ⟨g, h1, h⟩ := obind h
          obtain ⟨co, h2, h⟩ := obind h
          obtain ⟨ca, h3, h⟩ := obind h
          cases h
          exact .of (me1_call ok h1 hc.1 hc.2.1 hc.2.2 (S.B ok o co h2).1 (S.B ok a ca h3).1)
        · cases h
  | _ => cases h
theorem snd_E (S : Snd Gr G Φ n) (ok : EOk Gr G Φ k L X W) (e : Expr) (fr : Bool) (c : CE) (h : cE G Φ (n + 1) L e = some (fr, c)) : frS X Gr W e fr c := by
  cases e with
  | Name x p => exact E_name S ok h
  | Constant v j p => exact E_const S ok h
  | BinOp a op b p => exact E_bin S ok h
  | UnaryOp op a p => exact E_un S ok h
  | BoolOp op es p =>
    obtain ⟨c', h1, h⟩ := obind (show (cBo G Φ n L op es >>= fun c => some (false, c)) = some (fr, c) from h)
    cases h
    exact ⟨S.Bo ok op es _ p h1, fun z => by cases z⟩
  | Compare a ops bs p => exact E_cmp S ok h
  | IfExp t a b p => exact E_if S ok h
  | Subscript v i p => exact E_sub S ok h
  | Tuple es j p => exact E_tup S ok h
  | List es p => exact E_lst S ok h
  | ListComp elt gs sc p => exact E_lc S ok h
  | Attribute o f p => exact E_attr S ok h
  | Call f as ks p => exact E_call S ok h
  | _ => cases h
theorem tA1_none {K : PySem.W.Frag} {σ : St} {H : Hp} {Q : VK} {c : CE} (h : tA1 K Gr W c none σ H Q) : tE K Gr W c σ H Q := h
theorem sn_varA (ok : EOk Gr G Φ k L X W) {x : Str} {i : Nat} {p : Pos} (h : L.slot x = some i) : PE X (.Name x p) (tA1 X.K Gr W (cVarB i) (some i)) := by
  have s := slot_ok ok.nm h
  refine PE.imp (pe_var s.at_ s.vis s.d1 s.d2) fun σ H Q hh => ?_
  obtain ⟨F, H₀, M, ρ, re, q⟩ := hh
  unfold cVarB at q
  cases e : ρ[i]? with
  | none => rw [e] at q; exact False.elim q
  | some sl =>
    rw [e] at q
    cases sl with
    | no => exact False.elim q
    | exn n ds => exact False.elim q
    | dat d b =>
      have ho : ownAny [some i] ρ = b := by
        show (ownAt ρ i || false) = b
        unfold ownAt
        rw [e, Bool.or_false]
        cases b <;> rfl
      cases b with
      | false =>
        obtain ⟨v, e1, r⟩ := re.pl i d e
        exact ⟨v, e1, q v H (Same.refl H) (by rw [ho]; exact r)⟩
      | true =>
        obtain ⟨v, e1, r⟩ := re_own re e
        exact ⟨v, e1, q v H (Same.refl H) (by rw [ho]; exact r)⟩
theorem snd_B (S : Snd Gr G Φ n) (ok : EOk Gr G Φ k L X W) (e : Expr) (c : CE) (h : cB G Φ (n + 1) L e = some c) : PE X e (tB X.K Gr W c) ∧ (plainT e = true → PT X e (tTst X.K Gr W (cTst c))) ∧ PE X e (tA1 X.K Gr W c (argIx L e)) := by
  have go : argIx L e = none → (cE G Φ n L e).map (·.2) = some c → PE X e (tB X.K Gr W c) ∧ (plainT e = true → PT X e (tTst X.K Gr W (cTst c))) ∧ PE X e (tA1 X.K Gr W c (argIx L e)) := by
    intro ha h
    obtain ⟨⟨fr, c'⟩, h1, h2⟩ := omap h
    cases h2
    have q := S.E ok e fr c' h1
    refine ⟨pe_B q.e, q.2, ?_⟩
    rw [ha]
    exact PE.imp q.e fun σ H Q => tA1_none
  cases e with
  | Name x p =>
    have h : (match L.slot x with | some i => some (cVarB i) | none => (cE G Φ n L (.Name x p)).map (·.2)) = some c := h
    split at h
    · rename_i i hi
      cases h
      refine ⟨sn_varB ok hi, fun _ => pt_of (sn_varB ok hi), ?_⟩
      rw [show argIx L (.Name x p) = some i from hi]
      exact sn_varA ok hi
    · rename_i hi
      exact go hi h
  | _ => exact go rfl h
theorem sndS (S : Snd Gr G Φ n) : Snd Gr G Φ (n + 1) where
  E := fun ok => snd_E S ok
  B := fun ok => snd_B S ok
  Es := fun ok es cs h => by
    cases es with
    | nil => cases h; exact sn_es_nil
    | cons e r =>
      have h : (if notStar e = true then (cE G Φ n _ e >>= fun y => cEs G Φ n _ r >>= fun cs => some (y.2 :: cs)) else none) = some cs := h
      split at h
      · rename_i hs
        obtain ⟨⟨fr, c⟩, h1, h⟩ := obind h
        obtain ⟨cs', h2, h⟩ := obind h
        cases h
        exact sn_es_cons hs (S.E ok e fr c h1).e (S.Es ok r cs' h2)
      · cases h
  As := fun {k L X W} ok es cs os h hst => by
    cases es with
    | nil => cases h; exact ⟨PA.imp pa_nil fun σ H Q => tAs_nil, rfl⟩
    | cons e r =>
      obtain ⟨c, h1, h⟩ := obind (show (cB G Φ n L e >>= fun c => cAs G Φ n L r >>= fun y => some (c :: y.1, argIx L e :: y.2)) = some (cs, os) from h)
      obtain ⟨⟨cs', os'⟩, h2, h⟩ := obind h
      rw [List.all_cons, Bool.and_eq_true] at hst
      cases h
      obtain ⟨a1, a2⟩ := S.As ok r cs' os' h2 hst.2
      exact ⟨PA.imp (pa_cons (S.B ok e c h1).2.2 a1 (star_cons hst.1)) fun σ H Q => tAs_cons, by simp [a2]⟩
  O := fun ok o c h => by
    cases o with
    | none => cases h; exact ⟨fun pins s σ H Q I q => po_none.run pins s σ H Q I (tO_none q)⟩
    | some e =>
      obtain ⟨c', h1, h⟩ := obind (show (cB G Φ n _ e >>= fun c => some (some c)) = some c from h)
      cases h
      exact ⟨fun pins s σ H Q I q => (po_some (S.B ok e c' h1).1).run pins s σ H Q I (tO_some q)⟩
  Bo := fun {k L X W} ok op es c pos h => by
    match es, h with
    | [a], h =>
      obtain ⟨⟨fr, c'⟩, h1, h2⟩ := omap (show (cE G Φ n L a).map (·.2) = some c from h)
      cases h2
      exact pe_one (S.E ok a fr c' h1).e
    | a :: b :: r, h =>
      obtain ⟨ca, h1, h⟩ := obind (show (cB G Φ n L a >>= fun ca => cBo G Φ n L op (b :: r) >>= fun cr => match op with | .And => some (cAndV ca cr) | .Or => some (cOrV ca cr)) = some c from h)
      obtain ⟨cr, h2, h⟩ := obind h
      cases op with
      | And => cases h; exact PE.imp (pe_and (S.B ok a ca h1).1 (S.Bo ok .And (b :: r) cr pos h2)) fun σ H Q => tE_andV
      | Or => cases h; exact PE.imp (pe_or (S.B ok a ca h1).1 (S.Bo ok .Or (b :: r) cr pos h2)) fun σ H Q => tE_orV
  T := fun {k L X W} ok e t h => by
    have go : plainT e = true → (cB G Φ n L e >>= fun c => some (cTst c)) = some t → PT X e (tTst X.K Gr W t) := by
      intro hp h
      obtain ⟨c, h1, h⟩ := obind h
      cases h
      exact (S.B ok e c h1).2.1 hp
    cases e with
    | UnaryOp op a p =>
      cases op with
      | Not =>
        obtain ⟨u, h1, h⟩ := obind (show (cT G Φ n L a >>= fun t => some (cNotT t)) = some t from h)
        cases h
        exact PT.imp (pt_not (S.T ok a u h1)) fun σ H Q => tTst_not
      | _ => exact go rfl h
    | BoolOp op es p => exact (S.To ok op es t p h).pt
    | IfExp a b c p => cases h
    | _ => exact go rfl h
  To := fun {k L X W} ok op es t pos h => by
    match es, h with
    | [a], h =>
      have h1 := S.T ok a t (show cT G Φ n L a = some t from h)
      cases op with
      | And => exact pw_and1 h1
      | Or => exact pw_or1 h1
    | a :: b :: r, h =>
      obtain ⟨ca, h1, h⟩ := obind (show (cT G Φ n L a >>= fun ca => cTo G Φ n L op (b :: r) >>= fun cr => match op with | .And => some (cAndT ca cr) | .Or => some (cOrT ca cr)) = some t from h)
      obtain ⟨cr, h2, h⟩ := obind h
      cases op with
      | And => cases h; exact PW.imp (pw_and (S.T ok a ca h1) (S.To ok .And (b :: r) cr pos h2)) fun σ H Q => tTst_and
      | Or => cases h; exact PW.imp (pw_or (S.T ok a ca h1) (S.To ok .Or (b :: r) cr pos h2)) fun σ H Q => tTst_or
  I := fun {k L X W} ok lent tg e c h => by
    have go : cI0 G Φ n L lent e = some c → PI X tg e (tIt X.K Gr W lent c) := S.I0 ok lent tg e c
    cases e with
    | Call f as ks pos =>
      cases f with
      | Name x p =>
        rcases as with _ | ⟨a, _ | ⟨b, _ | ⟨d, r⟩⟩⟩
        · exact go h
        · rcases ks with _ | ⟨k1, ks⟩
          · have h5 : (if ((L.glob x && notStar a) && decide (x = ("range" : Str))) = true then (cB G Φ n L a >>= fun ca => some (cRange1 ca)) else cI0 G Φ n L lent (.Call (.Name x p) [a] [] pos)) = some c := h
            clear h
            split at h5
            · rename_i hc
              rw [Bool.and_eq_true, Bool.and_eq_true, decide_eq_true_iff] at hc
              obtain ⟨⟨h1, h2⟩, rfl⟩ := hc
              obtain ⟨ca, h3, h5⟩ := obind h5
              cases h5
              exact sn_range1 ok h1 h2 (S.B ok a ca h3).1
            · exact go h5
          · exact go h
        · rcases ks with _ | ⟨k1, ks⟩
          · have h5 : (if ((L.glob x && (notStar a && notStar b)) && decide (x = ("range" : Str))) = true then (cB G Φ n L a >>= fun ca => cB G Φ n L b >>= fun cb => some (cRange2 ca cb)) else cI0 G Φ n L lent (.Call (.Name x p) [a, b] [] pos)) = some c := h
            clear h
            split at h5
            · rename_i hc
              rw [Bool.and_eq_true, Bool.and_eq_true, Bool.and_eq_true, decide_eq_true_iff] at hc
              obtain ⟨⟨h1, h2, h2'⟩, rfl⟩ := hc
              obtain ⟨ca, h3, h5⟩ := obind h5
              obtain ⟨cb, h4, h5⟩ := obind h5
              cases h5
              exact sn_range2 ok h1 h2 h2' (S.B ok a ca h3).1 (S.B ok b cb h4).1
            · exact go h5
          · exact go h
        · exact go h
      | _ => exact go h
    | _ => exact go h
  I0 := fun {k L X W} ok lent tg e c h => by
    cases lent with
    | true =>
      obtain ⟨c', h1, h⟩ := obind (show (cB G Φ n L e >>= fun c => some (cItE c)) = some c from h)
      cases h
      exact sn_itB (S.B ok e c' h1).1
    | false =>
      obtain ⟨⟨fr, c'⟩, h1, h⟩ := obind (show (cE G Φ n L e >>= fun y => some (cItE y.2)) = some c from h)
      cases h
      exact sn_itE (S.E ok e fr c' h1).e
end
theorem snd {Gr : Gx} {G : GI} {Φ : Ph} : ∀ n, Snd Gr G Φ n
  | 0 => snd0
  | n + 1 => sndS (snd n)
end Pv


/-! statements: what they do to the names' data -/
namespace Pv
open PySem PySem.Spec L2
open PyProof.Rows hiding St

inductive Fw where
  | nx (ρ : En) | rt (d : PyData) | bk (ρ : En) | ct (ρ : En) | exc (n : Str) (ds : List PyData) (ρ : En) | bad
abbrev CS := En → Fw

/-! ### the state's changes -/
section
variable {K : PySem.W.Frag} {G : Gx} {F M : Addr → Prop} {H₀ H H' : Hp} {ρ : En} {σ : St}
theorem own_new {i : Nat} {d : PyData} {p a : Addr} (h : Own (ρ.set i (.dat d true)) (σ.set i (some (.ref p))) a) : Own ρ σ a ∨ a = p := by
  obtain ⟨j, e, e1, e2⟩ := h
  rw [List.getElem?_set] at e1 e2
  by_cases hij : i = j
  · rw [if_pos hij] at e2
    split at e2
    · injection e2 with e2; injection e2 with e2; injection e2 with e2; exact .inr e2.symm
    · cases e2
  · rw [if_neg hij] at e1 e2
    exact .inl ⟨j, e, e1, e2⟩
theorem RE.there (r : RE K G F H₀ M ρ σ H) {a : Addr} (h : Own ρ σ a) : ∃ vs, H a = some (.lst vs) := by
  obtain ⟨j, d, e1, e2⟩ := h
  obtain ⟨ds, b, vs, _, e3, e4, _⟩ := r.ow j d e1
  rw [e2] at e3
  injection e3 with e3; injection e3 with e3; injection e3 with e3
  subst e3
  exact ⟨vs, e4⟩
theorem get_new {α : Type} {l : List α} {i j : Nat} {x y : α} (h : (l.set i x)[j]? = some y) : (i = j ∧ j < l.length ∧ x = y) ∨ (i ≠ j ∧ l[j]? = some y) := by
  rw [List.getElem?_set] at h
  by_cases hij : i = j
  · rw [if_pos hij] at h
    split at h
    · rename_i hlt
      injection h with h
      exact .inl ⟨hij, by omega, h⟩
    · cases h
  · rw [if_neg hij] at h
    exact .inr ⟨hij, h⟩
theorem get_set {α : Type} {l : List α} {i : Nat} {x : α} (h : i < l.length) : (l.set i x)[i]? = some x := by
  rw [List.getElem?_set, if_pos rfl, if_pos h]
theorem get_oth {α : Type} {l : List α} {i j : Nat} {x : α} (h : i ≠ j) : (l.set i x)[j]? = l[j]? := by
  rw [List.getElem?_set, if_neg h]
/-- a new list becomes the name's own -/
theorem RE.putNew (r : RE K G F H₀ M ρ σ H) {i : Nat} {ds : List PyData} {v : V} (nw : Nw K H (FF F ρ σ) H' (.list ds) v) (s : Same H H') : RE K G F H₀ M (ρ.set i (.dat (.list ds) true)) (σ.set i (some v)) H' := by
  obtain ⟨p, vs, rfl, np, hp, rs⟩ := nw
  have hl : ∀ a, FF F (ρ.set i (.dat (.list ds) true)) (σ.set i (some (.ref p))) a → FF F ρ σ a ∨ a = p := fun a z => by
    rcases z with z | z
    · exact .inl (.inl z)
    · rcases own_new z with z | z
      · exact .inl (.inr z)
      · exact .inr z
  have up : ∀ {d : PyData} {v : V}, Rp K (FF F ρ σ) H d v → Rp K (FF F (ρ.set i (.dat (.list ds) true)) (σ.set i (some (.ref p)))) H' d v := fun {d v} q =>
    Rp.less (Rp.same (Rp.grow (F' := fun a => FF F ρ σ a ∨ a = p) (fun a z => z.imp id fun z => by subst z; exact np) d v q) s) hl
  have ups : ∀ {d : List PyData} {v : List V}, Rps K (FF F ρ σ) H d v → Rps K (FF F (ρ.set i (.dat (.list ds) true)) (σ.set i (some (.ref p)))) H' d v := fun {d v} q =>
    Rps.less (Rps.same (Rps.grow (F' := fun a => FF F ρ σ a ∨ a = p) (fun a z => z.imp id fun z => by subst z; exact np) d v q) s) hl
  have pn : ∀ a, Own ρ σ a → a ≠ p := fun a z e => by
    obtain ⟨ws, e1⟩ := r.there z
    rw [e, np] at e1; cases e1
  have hlen := r.len
  refine ⟨by simp [hlen], fun j d e => ?_, fun j d e => ?_, fun j l d e a e1 e2 e3 e4 => ?_, fun a o h m => s _ _ (r.frm a o h m), fun a z => ?_, r.fn, fun j n es e => ?_⟩
  · rcases get_new e with ⟨_, _, e⟩ | ⟨hij, e⟩
    · cases e
    · obtain ⟨v, e1, q⟩ := r.pl j d e
      exact ⟨v, by rw [get_oth hij]; exact e1, up q⟩
  · rcases get_new e with ⟨hij, hlt, e⟩ | ⟨hij, e⟩
    · cases e
      subst hij
      exact ⟨ds, p, vs, rfl, get_set (by omega), hp, rs.less hl⟩
    · obtain ⟨es, a, ws, e0, e1, e2, q⟩ := r.ow j d e
      exact ⟨es, a, ws, e0, by rw [get_oth hij]; exact e1, s _ _ e2, ups q⟩
  · rcases get_new e1 with ⟨h1, l1, _⟩ | ⟨h1, e1⟩
    · rcases get_new e2 with ⟨h2, _, _⟩ | ⟨h2, e2⟩
      · omega
      · subst h1
        rw [get_set (by omega)] at e3
        rw [get_oth h2] at e4
        injection e3 with e3; injection e3 with e3; injection e3 with e3
        exact absurd e3.symm (pn a ⟨l, e, e2, e4⟩)
    · rw [get_oth h1] at e3
      rcases get_new e2 with ⟨h2, l2, _⟩ | ⟨h2, e2⟩
      · subst h2
        rw [get_set (by omega)] at e4
        injection e4 with e4; injection e4 with e4; injection e4 with e4
        exact absurd e4.symm (pn a ⟨j, d, e1, e3⟩)
      · rw [get_oth h2] at e4
        exact r.un j l d e a e1 e2 e3 e4
  · rcases own_new z with z | z
    · exact r.own a z
    · subst z
      refine ⟨?_, fun f => ?_⟩
      · by_cases m : M a
        · exact .inr m
        · left
          cases e : H₀ a with
          | none => rfl
          | some o => have := r.frm a o e m; rw [np] at this; cases this
      · obtain ⟨mu, m⟩ := r.fn a f
        obtain ⟨o, e⟩ := mut_some mu
        have := r.frm a o e m
        rw [np] at this; cases this
  · rcases get_new e with ⟨_, _, e⟩ | ⟨hij, e⟩
    · cases e
    · obtain ⟨a, C, od, e1, e2, x⟩ := r.ex j n es e
      exact ⟨a, C, od, e1, by rw [get_oth hij]; exact e2, x.keep (fun _ _ e => s _ _ e) fun vs q => ups q⟩
/-- a list of one's own changes -/
theorem RE.mutate (r : RE K G F H₀ M ρ σ H) {i : Nat} {d : PyData} {es : List PyData} {a : Addr} {ws : List V} (e : ρ[i]? = some (.dat d true)) (hi : σ[i]? = some (some (.ref a))) (q : Rps K (FF F ρ σ) H es ws) : RE K G F H₀ M (ρ.set i (.dat (.list es) true)) σ (upd H a (.lst ws)) := by
  have hown : Own ρ σ a := ⟨i, d, e, hi⟩
  obtain ⟨vs0, h0⟩ := r.there hown
  have ob : ∀ b, Own (ρ.set i (.dat (.list es) true)) σ b → Own ρ σ b := fun b ⟨j, x, e1, e2⟩ => by
    rcases get_new e1 with ⟨hij, _, e1⟩ | ⟨hij, e1⟩
    · subst hij; exact ⟨i, d, e, e2⟩
    · exact ⟨j, x, e1, e2⟩
  have hl : ∀ b, FF F (ρ.set i (.dat (.list es) true)) σ b → FF F ρ σ b := fun b z => z.imp id (ob b)
  have kp : Kp (FF F ρ σ) H (upd H a (.lst ws)) := fun b o hb c => by
    by_cases hba : b = a
    · subst hba
      rw [h0] at hb
      cases hb
      rcases c with c | ⟨xs, c⟩ | ⟨u, xs, c⟩
      · exact absurd (.inr hown) c
      · cases c
      · cases c
    · rw [upd_ne hba]; exact hb
  have hlt : i < ρ.length := (List.getElem?_eq_some_iff.mp e).1
  refine ⟨by simp [r.len], fun j x ex => ?_, fun j x ex => ?_, fun j l x y b e1 e2 e3 e4 => ?_, fun b o h m => ?_, fun b z => r.own b (ob b z), r.fn, fun j n ds ex => ?_⟩
  · rcases get_new ex with ⟨_, _, ex⟩ | ⟨hij, ex⟩
    · cases ex
    · obtain ⟨v, e1, rv⟩ := r.pl j x ex
      exact ⟨v, e1, Rp.keep kp hl _ _ rv⟩
  · rcases get_new ex with ⟨hij, _, ex⟩ | ⟨hij, ex⟩
    · cases ex
      subst hij
      exact ⟨es, a, ws, rfl, hi, upd_same, Rps.keep kp hl _ _ q⟩
    · obtain ⟨fs, b, us, e0, e1, e2, rv⟩ := r.ow j x ex
      have hba : b ≠ a := fun z => by
        subst z
        exact hij (r.un i j d x b e ex hi e1)
      exact ⟨fs, b, us, e0, e1, by rw [upd_ne hba]; exact e2, Rps.keep kp hl _ _ rv⟩
  · have g : ∀ {j : Nat} {x : PyData}, (ρ.set i (Sl.dat (.list es) true))[j]? = some (Sl.dat x true) → ∃ x' : PyData, ρ[j]? = some (Sl.dat x' true) := fun {j x} z => by
      rcases get_new z with ⟨hij, _, _⟩ | ⟨_, z⟩
      · subst hij; exact ⟨d, e⟩
      · exact ⟨x, z⟩
    obtain ⟨x', e1⟩ := g e1
    obtain ⟨y', e2⟩ := g e2
    exact r.un j l x' y' b e1 e2 e3 e4
  · by_cases hba : b = a
    · subst hba
      rcases (r.own b hown).1 with z | z
      · rw [z] at h; cases h
      · exact absurd z m
    · rw [upd_ne hba]; exact r.frm b o h m
  · rcases get_new ex with ⟨_, _, ex⟩ | ⟨hij, ex⟩
    · cases ex
    · obtain ⟨b, C, od, e1, e2, x⟩ := r.ex j n ds ex
      refine ⟨b, C, od, e1, e2, x.keep (fun dx fs hx => ?_) fun vs rv => Rps.keep kp hl _ _ rv⟩
      rw [upd_ne (fun z => by subst z; rw [h0] at hx; cases hx)]
      exact hx
/-- a list is one's own no longer -/
def disE (i : Nat) (ρ : En) : En := match ρ[i]? with
  | some (.dat d true) => ρ.set i (.dat d false)
  | _ => ρ
theorem RE.dis (r : RE K G F H₀ M ρ σ H) (i : Nat) : RE K G F H₀ M (disE i ρ) σ H := by
  unfold disE
  cases e : ρ[i]? with
  | none => exact r
  | some sl =>
    cases sl with
    | no => exact r
    | exn n ds => exact r
    | dat d b =>
      cases b with
      | false => exact r
      | true =>
        show RE K G F H₀ M (ρ.set i (.dat d false)) σ H
        obtain ⟨ds, a, vs, rfl, hi, h0, rs⟩ := r.ow i d e
        have ob : ∀ b, Own (ρ.set i (.dat (.list ds) false)) σ b → Own ρ σ b ∧ b ≠ a := fun b ⟨j, x, e1, e2⟩ => by
          rcases get_new e1 with ⟨hij, _, e1⟩ | ⟨hij, e1⟩
          · cases e1
          · exact ⟨⟨j, x, e1, e2⟩, fun z => hij (r.un i j _ x a e e1 hi (by rw [← z]; exact e2))⟩
        have hl : ∀ b, FF F (ρ.set i (.dat (.list ds) false)) σ b → FF F ρ σ b := fun b z => z.imp id fun z => (ob b z).1
        have hlt : i < ρ.length := (List.getElem?_eq_some_iff.mp e).1
        refine ⟨by simp [r.len], fun j x ex => ?_, fun j x ex => ?_, fun j l x y b e1 e2 e3 e4 => ?_, r.frm, fun b z => r.own b (ob b z).1, r.fn, fun j n es ex => ?_⟩
        · rcases get_new ex with ⟨hij, _, ex⟩ | ⟨hij, ex⟩
          · cases ex
            subst hij
            refine ⟨_, hi, a, vs, rfl, fun z => ?_, .inl h0, rs.less hl⟩
            rcases z with z | z
            · exact (r.own a ⟨i, _, e, hi⟩).2 z
            · exact (ob a z).2 rfl
          · obtain ⟨v, e1, rv⟩ := r.pl j x ex
            exact ⟨v, e1, rv.less hl⟩
        · rcases get_new ex with ⟨hij, _, ex⟩ | ⟨hij, ex⟩
          · cases ex
          · obtain ⟨fs, b, us, e0, e1, e2, rv⟩ := r.ow j x ex
            exact ⟨fs, b, us, e0, e1, e2, rv.less hl⟩
        · rcases get_new e1 with ⟨_, _, e1⟩ | ⟨_, e1⟩
          · cases e1
          · rcases get_new e2 with ⟨_, _, e2⟩ | ⟨_, e2⟩
            · cases e2
            · exact r.un j l x y b e1 e2 e3 e4
        · rcases get_new ex with ⟨_, _, ex⟩ | ⟨hij, ex⟩
          · cases ex
          · obtain ⟨b, C, od, e1, e2, x⟩ := r.ex j n es ex
            exact ⟨b, C, od, e1, e2, x.less hl⟩
def disL : List Nat → En → En
  | [], ρ => ρ
  | i :: is, ρ => disL is (disE i ρ)
theorem RE.disL : ∀ {is : List Nat} {ρ : En}, RE K G F H₀ M ρ σ H → RE K G F H₀ M (Pv.disL is ρ) σ H
  | [], _, r => r
  | i :: is, _, r => RE.disL (is := is) (r.dis i)
/-! another start -/
theorem RE.inner (r : RE K G F H₀ M ρ σ H) : RE K G F H (Own ρ σ) ρ σ H where
  len := r.len
  pl := r.pl
  ow := r.ow
  un := r.un
  frm := fun a o h _ => h
  own := fun a z => ⟨.inr z, (r.own a z).2⟩
  fn := fun a z => ⟨r.ff (.inl z), fun c => (r.own a c).2 z⟩
  ex := r.ex
def Frm (H₀ : Hp) (M : Addr → Prop) (H : Hp) : Prop := ∀ a o, H₀ a = some o → ¬ M a → H a = some o
theorem Frm.outer (r : RE K G F H₀ M ρ σ H) (f : Frm H (Own ρ σ) H') : Frm H₀ M H' := fun a o h m => by
  refine f a o (r.frm a o h m) fun z => ?_
  rcases (r.own a z).1 with e | e
  · rw [e] at h; cases h
  · exact m e
theorem RE.outer {ρ' : En} {σ' : St} (r : RE K G F H₀ M ρ σ H) (i : RE K G F H (Own ρ σ) ρ' σ' H') : RE K G F H₀ M ρ' σ' H' where
  len := i.len
  pl := i.pl
  ow := i.ow
  un := i.un
  frm := Frm.outer r i.frm
  own := fun a z => ⟨by
    rcases (i.own a z).1 with e | e
    · by_cases m : M a
      · exact .inr m
      · left
        cases e2 : H₀ a with
        | none => rfl
        | some o => have := r.frm a o e2 m; rw [e] at this; cases this
    · exact (r.own a e).1, (i.own a z).2⟩
  fn := r.fn
  ex := i.ex
/-! ### what is asked of a statement's end -/
def FPost (K : PySem.W.Frag) (G : Gx) (W : WX) (F : Addr → Prop) (H₀ : Hp) (M : Addr → Prop) (D : Ends) : Fw → Prop
  | .nx ρ' => ∀ σ' H', RE K G F H₀ M ρ' σ' H' → D.nx σ' H'
  | .bk ρ' => ∀ σ' H', RE K G F H₀ M ρ' σ' H' → D.bk σ' H'
  | .ct ρ' => ∀ σ' H', RE K G F H₀ M ρ' σ' H' → D.ct σ' H'
  | .rt d => ∀ v H', Frm H₀ M H' → Rp K F H' d v → D.rt v H'
  | .exc n ds ρ' => ∀ cls od σ' H', RE K G F H₀ M ρ' σ' H' → XR K G (FF F ρ' σ') H' n ds cls od → W cls od σ' H'
  | .bad => False
def tSt (K : PySem.W.Frag) (G : Gx) (W : WX) (c : CS) : TS := fun D σ H => ∃ F H₀ M ρ, RE K G F H₀ M ρ σ H ∧ FPost K G W F H₀ M D (c ρ)
end
def disow (is : List Nat) (c : CS) : CS := fun ρ => c (disL is ρ)
theorem tSt_dis {K : PySem.W.Frag} {G : Gx} {W : WX} {D : Ends} {σ : St} {H : Hp} {is : List Nat} {c : CS} (h : tSt K G W (disow is c) D σ H) : tSt K G W c D σ H := by
  obtain ⟨F, H₀, M, ρ, re, p⟩ := h
  exact ⟨F, H₀, M, _, re.disL, p⟩
theorem PS.imp {X : Cx} {s : Stmt} {t t' : TS} (h : PS X s t) (hm : ∀ D σ H, t' D σ H → t D σ H) : PS X s t' := ⟨fun pins s σ H D I q => h.run pins s σ H D I (hm D σ H q)⟩
theorem PSs.imp {X : Cx} {s : List Stmt} {t t' : TS} (h : PSs X s t) (hm : ∀ D σ H, t' D σ H → t D σ H) : PSs X s t' := ⟨fun pins s σ H D I q => h.run pins s σ H D I (hm D σ H q)⟩
/-! ### the makers -/
def ofE (c : CE) (k : PyData → En → Fw) : CS := fun ρ => match c ρ with
  | .ok d => k d ρ
  | .exc n ds => .exc n ds ρ
  | .bad => .bad
def isL : PyData → Bool
  | .list _ => true
  | _ => false
def sSet (i : Nat) (fr : Bool) (c : CE) : CS := ofE c fun d ρ => .nx (ρ.set i (.dat d (fr && isL d)))
def sTg (g : Tg) (c : CE) : CS := ofE c fun d ρ => match tgSet g d ρ with
  | .ok ρ' => .nx ρ'
  | _ => .bad
def sRet (c : CE) : CS := ofE c fun d _ => .rt d
def sDrop (c : CE) : CS := ofE c fun _ ρ => .nx ρ
def sApp (i : Nat) (c : CE) : CS := fun ρ => match ρ[i]? with
  | some (.dat (.list ds) true) => (match c ρ with
    | .ok d => if ds.length < 16000000 then .nx (ρ.set i (.dat (.list (ds ++ [d])) true)) else .bad
    | .exc n es => .exc n es ρ
    | .bad => .bad)
  | _ => .bad
def sPut (i : Nat) (cj c : CE) : CS := fun ρ => match ρ[i]? with
  | some (.dat (.list ds) true) => (match c ρ with
    | .ok d => (match cj ρ with
      | .ok (.int j) => (match ixN ds.length j with
        | some n => .nx (ρ.set i (.dat (.list (ds.set n d)) true))
        | none => .bad)
      | _ => .bad)
    | .exc n es => .exc n es ρ
    | .bad => .bad)
  | _ => .bad
def sSeq (a b : CS) : CS := fun ρ => match a ρ with
  | .nx ρ' => b ρ'
  | r => r
def sIf (t : CT) (a b : CS) : CS := fun ρ => match t ρ with
  | .ok true => a ρ
  | .ok false => b ρ
  | .exc n ds => .exc n ds ρ
  | .bad => .bad
def forL (g : Tg) (b : CS) : List PyData → En → Fw
  | [], ρ => .nx ρ
  | d :: ds, ρ => match tgSet g d ρ with
    | .ok ρ1 => (match b ρ1 with
      | .nx ρ' => forL g b ds ρ'
      | .ct ρ' => forL g b ds ρ'
      | .bk ρ' => .nx ρ'
      | r => r)
    | _ => .bad
def sFor (ci : CI) (g : Tg) (b : CS) : CS := fun ρ => match ci ρ with
  | .ok ds => forL g b ds ρ
  | .exc n ds => .exc n ds ρ
  | .bad => .bad
def whileL (t : CT) (b : CS) : Nat → En → Fw
  | 0, _ => .bad
  | n + 1, ρ => match t ρ with
    | .ok true => (match b ρ with
      | .nx ρ' => whileL t b n ρ'
      | .ct ρ' => whileL t b n ρ'
      | .bk ρ' => .nx ρ'
      | r => r)
    | .ok false => .nx ρ
    | .exc n ds => .exc n ds ρ
    | .bad => .bad
def sWhile (n : Nat) (t : CT) (b : CS) : CS := whileL t b n
def sNx : CS := fun ρ => .nx ρ
def sBk : CS := fun ρ => .bk ρ
def sCt : CS := fun ρ => .ct ρ
def sRetN : CS := fun _ => .rt .none
end Pv


/-! statements: sound -/
namespace Pv
open PySem PySem.Spec L2
open PyProof.Rows hiding St

structure SOk (Gr : Gx) (G : GI) (Φ : Ph) (k : Nat) (L : Lc) (X : Cx) (W : WX) : Prop extends EOk Gr G Φ k L X W where
  kd : X.env.scope.kind = .function
  pa : L.calm = true → PassesOwn (model X.prog X.w) X.A X.env X.xe
  st : X.stack = X.env :: X.outer
  fr : X.env.frame = some X.env.locals
section
variable {K : PySem.W.Frag} {Gr : Gx} {W : WX} {D : Ends} {σ : St} {H : Hp}
theorem st_E {c : CE} {k : PyData → En → Fw} (h : tSt K Gr W (ofE c k) D σ H) : tE K Gr W c σ H fun v H1 => ∃ F H₀ M ρ d, RE K Gr F H₀ M ρ σ H1 ∧ Rp K (FF F ρ σ) H1 d v ∧ FPost K Gr W F H₀ M D (k d ρ) := by
  obtain ⟨F, H₀, M, ρ, re, p⟩ := h
  refine ⟨F, H₀, M, ρ, re, ?_⟩
  unfold ofE at p
  cases hc : c ρ with
  | ok d => rw [hc] at p; exact fun v H1 s r => ⟨F, H₀, M, ρ, d, re.same s, r, p⟩
  | exc n ds => rw [hc] at p; exact fun cls od H1 s x => p cls od σ H1 (re.same s) x
  | bad => rw [hc] at p; exact p
theorem st_F {c : CE} {k : PyData → En → Fw} (h : tSt K Gr W (ofE c k) D σ H) : tF K Gr W c σ H fun v H1 => ∃ F H₀ M ρ d, RE K Gr F H₀ M ρ σ H ∧ Same H H1 ∧ Nw K H (FF F ρ σ) H1 d v ∧ FPost K Gr W F H₀ M D (k d ρ) := by
  obtain ⟨F, H₀, M, ρ, re, p⟩ := h
  refine ⟨F, H₀, M, ρ, re, ?_⟩
  unfold ofE at p
  cases hc : c ρ with
  | ok d => rw [hc] at p; exact fun v H1 s r => ⟨F, H₀, M, ρ, d, re, s, r, p⟩
  | exc n ds => rw [hc] at p; exact fun cls od H1 s x => p cls od σ H1 (re.same s) x
  | bad => rw [hc] at p; exact p
theorem st_seq {a b : CS} (h : tSt K Gr W (sSeq a b) D σ H) : tSeq (tSt K Gr W a) (tSt K Gr W b) D σ H := by
  obtain ⟨F, H₀, M, ρ, re, p⟩ := h
  refine ⟨F, H₀, M, ρ, re, ?_⟩
  unfold sSeq at p
  cases ha : a ρ with
  | nx ρ' => rw [ha] at p; exact fun σ' H' r => ⟨F, H₀, M, ρ', r, p⟩
  | rt d => rw [ha] at p; exact p
  | bk ρ' => rw [ha] at p; exact p
  | ct ρ' => rw [ha] at p; exact p
  | exc n ds ρ' => rw [ha] at p; exact p
  | bad => rw [ha] at p; exact p
theorem st_if {t : CT} {a b : CS} (h : tSt K Gr W (sIf t a b) D σ H) : tIfS (tTst K Gr W t) (tSt K Gr W a) (tSt K Gr W b) D σ H := by
  obtain ⟨F, H₀, M, ρ, re, p⟩ := h
  refine ⟨F, H₀, M, ρ, re, ?_⟩
  unfold sIf at p
  cases ht : t ρ with
  | ok k =>
    rw [ht] at p
    intro k' H1 s e
    subst e
    cases k with
    | true => exact ⟨F, H₀, M, ρ, re.same s, p⟩
    | false => exact ⟨F, H₀, M, ρ, re.same s, p⟩
  | exc n ds => rw [ht] at p; exact fun cls od H1 s x => p cls od σ H1 (re.same s) x
  | bad => rw [ht] at p; exact p
theorem st_ret {c : CE} (h : tSt K Gr W (sRet c) D σ H) : tRet (tE K Gr W c) D σ H := by
  obtain ⟨F, H₀, M, ρ, re, p⟩ := h
  refine ⟨F, H₀, M, ρ, re, ?_⟩
  unfold sRet ofE at p
  cases hc : c ρ with
  | ok d => rw [hc] at p; exact fun v H1 s r => p v H1 (re.same s).frm (r.less fun a z => .inl z)
  | exc n ds => rw [hc] at p; exact fun cls od H1 s x => p cls od σ H1 (re.same s) x
  | bad => rw [hc] at p; exact p
theorem st_retN (h : tSt K Gr W sRetN D σ H) : tRetN D σ H := by
  obtain ⟨F, H₀, M, ρ, re, p⟩ := h
  exact p .non H re.frm rfl
theorem st_drop {c : CE} (h : tSt K Gr W (sDrop c) D σ H) : tDrop (tE K Gr W c) D σ H := by
  obtain ⟨F, H₀, M, ρ, re, p⟩ := h
  refine ⟨F, H₀, M, ρ, re, ?_⟩
  unfold sDrop ofE at p
  cases hc : c ρ with
  | ok d => rw [hc] at p; exact fun v H1 s r => p σ H1 (re.same s)
  | exc n ds => rw [hc] at p; exact fun cls od H1 s x => p cls od σ H1 (re.same s) x
  | bad => rw [hc] at p; exact p
theorem st_nx (h : tSt K Gr W sNx D σ H) : tNext D σ H := by
  obtain ⟨F, H₀, M, ρ, re, p⟩ := h
  exact p σ H re
theorem st_bk (h : tSt K Gr W sBk D σ H) : tBreak D σ H := by
  obtain ⟨F, H₀, M, ρ, re, p⟩ := h
  exact p σ H re
theorem st_ct (h : tSt K Gr W sCt D σ H) : tCont D σ H := by
  obtain ⟨F, H₀, M, ρ, re, p⟩ := h
  exact p σ H re
theorem st_set {i : Nat} {c : CE} (h : tSt K Gr W (sSet i false c) D σ H) : tAsg (tE K Gr W c) (gName i) D σ H := by
  obtain ⟨F, H₀, M, ρ, re, p⟩ := h
  refine ⟨F, H₀, M, ρ, re, ?_⟩
  unfold sSet ofE at p
  cases hc : c ρ with
  | ok d =>
    rw [hc] at p
    exact fun v H1 s r => p _ H1 ((re.same s).put (s := .dat d false) ⟨v, rfl, r⟩)
  | exc n ds => rw [hc] at p; exact fun cls od H1 s x => p cls od σ H1 (re.same s) x
  | bad => rw [hc] at p; exact p
theorem st_setF {i : Nat} {c : CE} (h : tSt K Gr W (sSet i true c) D σ H) : tAsg (tF K Gr W c) (gName i) D σ H := by
  obtain ⟨F, H₀, M, ρ, re, p⟩ := h
  refine ⟨F, H₀, M, ρ, re, ?_⟩
  unfold sSet ofE at p
  cases hc : c ρ with
  | ok d =>
    rw [hc] at p
    intro v H1 s r
    have plain : (∀ ds, d ≠ .list ds) → Rp K (FF F ρ σ) H1 d v := fun _ => r.rp re.trk
    cases d with
    | list ds => exact p _ H1 (re.putNew r s)
    | none => exact p _ H1 ((re.same s).put (s := .dat .none false) ⟨v, rfl, r⟩)
    | bool b => exact p _ H1 ((re.same s).put (s := .dat (.bool b) false) ⟨v, rfl, r⟩)
    | int b => exact p _ H1 ((re.same s).put (s := .dat (.int b) false) ⟨v, rfl, r⟩)
    | str b => exact p _ H1 ((re.same s).put (s := .dat (.str b) false) ⟨v, rfl, r⟩)
    | tuple b => exact p _ H1 ((re.same s).put (s := .dat (.tuple b) false) ⟨v, rfl, r⟩)
    | dict b => exact False.elim r
  | exc n ds => rw [hc] at p; exact fun cls od H1 s x => p cls od σ H1 (re.same s) x
  | bad => rw [hc] at p; exact p
theorem st_tg {g : Tg} {c : CE} (h : tSt K Gr W (sTg g c) D σ H) : tAsg (tE K Gr W c) (tTg K g) D σ H := by
  obtain ⟨F, H₀, M, ρ, re, p⟩ := h
  refine ⟨F, H₀, M, ρ, re, ?_⟩
  unfold sTg ofE at p
  cases hc : c ρ with
  | ok d =>
    rw [hc] at p
    dsimp only at p
    intro v H1 s r
    cases ht : tgSet g d ρ with
    | ok ρ' => rw [ht] at p; exact tg_run (re.same s) r ht fun σ' re' _ => p σ' H1 re'
    | exc n es => rw [ht] at p; exact False.elim p
    | bad => rw [ht] at p; exact False.elim p
  | exc n ds => rw [hc] at p; exact fun cls od H1 s x => p cls od σ H1 (re.same s) x
  | bad => rw [hc] at p; exact p
/-- x.append(e) -/
theorem st_app {i : Nat} {c : CE} (h : tSt K Gr W (sApp i c) D σ H) : tDrop (tBM K "list" rAppend (tVar i) (tCons (tE K Gr W c) tNil)) D σ H := by
  obtain ⟨F, H₀, M, ρ, re, p⟩ := h
  unfold sApp at p
  cases hi : ρ[i]? with
  | none => rw [hi] at p; exact False.elim p
  | some sl =>
    rw [hi] at p
    split at p
    · rename_i ds e
      injection e with e
      subst e
      obtain ⟨ds', a, vs, e0, e1, e2, rs⟩ := re.ow i _ hi
      cases e0
      refine ⟨.ref a, e1, .inl ⟨rfl, vs, .inl (.inl e2)⟩, F, H₀, M, ρ, re, ?_⟩
      cases hc : c ρ with
      | ok d =>
        rw [hc] at p
        intro v H1 s r
        dsimp only at p
        split at p
        · rename_i hz
          have hl := rs.length
          have := sizeLine_eq
          exact ⟨a, vs, v, rfl, rfl, s _ _ e2, by omega, p σ _ ((re.same s).mutate hi e1 ((rs.same s).append (Rps.one r)))⟩
        · exact False.elim p
      | exc n es => rw [hc] at p; exact fun cls od H1 s x => p cls od σ H1 (re.same s) x
      | bad => rw [hc] at p; exact p
    · exact False.elim p
/-- x[j] = e -/
theorem st_put {i : Nat} {cj c : CE} (h : tSt K Gr W (sPut i cj c) D σ H) : tAsg (tE K Gr W c) (gSub (tVar i) (tB K Gr W cj) rSetL) D σ H := by
  obtain ⟨F, H₀, M, ρ, re, p⟩ := h
  refine ⟨F, H₀, M, ρ, re, ?_⟩
  unfold sPut at p
  cases hi : ρ[i]? with
  | none => rw [hi] at p; exact False.elim p
  | some sl =>
    rw [hi] at p
    split at p
    · rename_i ds e
      injection e with e
      subst e
      obtain ⟨ds', a, vs, e0, e1, e2, rs⟩ := re.ow i _ hi
      cases e0
      cases hc : c ρ with
      | ok d =>
        rw [hc] at p
        intro v H1 s r
        dsimp only at p
        refine ⟨.ref a, e1, F, H₀, M, ρ, re.same s, ?_⟩
        cases hj : cj ρ with
        | ok jd =>
          rw [hj] at p
          intro y H2 s2 ry
          cases jd with
          | int j =>
            dsimp only at p
            cases rd_ints ry
            split at p
            · rename_i n hn
              have hl := rs.length
              exact ⟨a, vs, j, n, rfl, rfl, s2 _ _ (s _ _ e2), by rw [← hl]; exact hn, p σ _ ((re.same (s.trans s2)).mutate hi e1 ((rs.same (s.trans s2)).set (r.same s2) n))⟩
            · exact False.elim p
          | _ => exact False.elim p
        | exc n es => rw [hj] at p; exact False.elim p
        | bad => rw [hj] at p; exact False.elim p
      | exc n es => rw [hc] at p; exact fun cls od H1 s x => p cls od σ H1 (re.same s) x
      | bad => rw [hc] at p; exact p
    · exact False.elim p
/-! loops -/
theorem FPost.inner {F M : Addr → Prop} {H₀ : Hp} {ρ : En} (re : RE K Gr F H₀ M ρ σ H) {r : Fw} (p : FPost K Gr W F H₀ M D r) : FPost K Gr W F H (Own ρ σ) D r := by
  cases r with
  | nx ρ' => exact fun σ' H' r => p σ' H' (re.outer r)
  | rt d => exact fun v H' f r => p v H' (Frm.outer re f) r
  | bk ρ' => exact fun σ' H' r => p σ' H' (re.outer r)
  | ct ρ' => exact fun σ' H' r => p σ' H' (re.outer r)
  | exc n ds ρ' => exact fun cls od σ' H' r x => p cls od σ' H' (re.outer r) x
  | bad => exact p
theorem st_for {ci : CI} {g : Tg} {b : CS} (h : tSt K Gr W (sFor ci g b) D σ H) : tFor (tIt K Gr W false ci) (tTg K g) (tSt K Gr W b) D σ H := by
  obtain ⟨F, H₀, M, ρ, re, p⟩ := h
  refine ⟨F, H₀, M, ρ, re, ?_⟩
  unfold sFor at p
  cases hc : ci ρ with
  | exc n ds => rw [hc] at p; exact fun cls od H1 s x => p cls od σ H1 (re.same s) x
  | bad => rw [hc] at p; exact p
  | ok ds =>
    rw [hc] at p
    intro J H1 s1 hz io
    have re1 := re.same s1
    have p1 : FPost K Gr W F H1 (Own ρ σ) D (forL g b ds ρ) := FPost.inner re1 p
    let Wd : Nat → St → Hp → Prop := fun i σ' H' => i ≤ ds.length ∧ ∃ ρ', RE K Gr F H1 (Own ρ σ) ρ' σ' H' ∧ FPost K Gr W F H1 (Own ρ σ) D (forL g b (ds.drop i) ρ')
    refine ⟨fun i m σ' H' => m = ds.length - i ∧ Wd i σ' H', ⟨_, rfl, Nat.zero_le _, ρ, re1.inner, by simpa using p1⟩, ?_⟩
    rintro i m σ' H' ⟨rfl, hi, ρ', r', q⟩
    have stay : Stay (FF F ρ σ) H1 H' := fun a o nf ha => r'.frm a o ha fun z => nf (.inr z)
    by_cases hlt : i < ds.length
    · right
      refine ⟨io.go i H' hlt stay, Wd (i + 1), fun σ'' H'' w => ⟨_, by omega, rfl, w⟩, fun x H2 y => ?_⟩
      have ei : ds[i]? = some ds[i] := by simp [hlt]
      obtain ⟨s2, rx⟩ := io.yld (FF F ρ' σ') (fun a z => by
        rcases z with z | z
        · exact .inl (.inl z)
        · rcases (r'.own a z).1 with e | e
          · exact .inr e
          · exact .inl (.inr e)) i H' H2 x ds[i] stay ei y
      rw [List.drop_eq_getElem_cons hlt] at q
      unfold forL at q
      cases ht : tgSet g ds[i] ρ' with
      | ok ρ1 =>
        rw [ht] at q
        refine tg_run (r'.same s2) rx ht fun σ3 re3 _ => ⟨F, H1, Own ρ σ, ρ1, re3, ?_⟩
        dsimp only at q
        cases hb : b ρ1 with
        | nx ρ2 => rw [hb] at q; exact fun σ4 H4 r4 => ⟨hlt, ρ2, r4, q⟩
        | ct ρ2 => rw [hb] at q; exact fun σ4 H4 r4 => ⟨hlt, ρ2, r4, q⟩
        | bk ρ2 => rw [hb] at q; exact q
        | rt d => rw [hb] at q; exact q
        | exc n es ρ2 => rw [hb] at q; exact q
        | bad => rw [hb] at q; exact q
      | exc n es => rw [ht] at q; exact False.elim q
      | bad => rw [ht] at q; exact False.elim q
    · left
      have e : i = ds.length := by omega
      subst e
      refine ⟨io.stop H' stay, ?_⟩
      rw [List.drop_length] at q
      exact q σ' H' r'
theorem st_while {t : CT} {b : CS} {n : Nat} (h : tSt K Gr W (sWhile n t b) D σ H) : tWhile (tTst K Gr W t) (tSt K Gr W b) D σ H := by
  obtain ⟨F, H₀, M, ρ, re, p⟩ := h
  refine ⟨fun m σ' H' => ∃ ρ', RE K Gr F H₀ M ρ' σ' H' ∧ FPost K Gr W F H₀ M D (whileL t b m ρ'), ⟨n, ρ, re, p⟩, ?_⟩
  rintro m σ' H' ⟨ρ', r', q⟩
  cases m with
  | zero => exact False.elim q
  | succ m =>
    refine ⟨F, H₀, M, ρ', r', ?_⟩
    unfold whileL at q
    cases ht : t ρ' with
    | ok k =>
      rw [ht] at q
      intro k' H1 s e
      subst e
      cases k with
      | false => exact q σ' H1 (r'.same s)
      | true =>
        refine ⟨fun σ2 H2 => ∃ ρ2, RE K Gr F H₀ M ρ2 σ2 H2 ∧ FPost K Gr W F H₀ M D (whileL t b m ρ2), fun σ2 H2 w => ⟨m, by omega, w⟩, F, H₀, M, ρ', r'.same s, ?_⟩
        dsimp only at q
        cases hb : b ρ' with
        | nx ρ2 => rw [hb] at q; exact fun σ4 H4 r4 => ⟨ρ2, r4, q⟩
        | ct ρ2 => rw [hb] at q; exact fun σ4 H4 r4 => ⟨ρ2, r4, q⟩
        | bk ρ2 => rw [hb] at q; exact q
        | rt d => rw [hb] at q; exact q
        | exc n es ρ2 => rw [hb] at q; exact q
        | bad => rw [hb] at q; exact q
    | exc n ds => rw [ht] at q; exact fun cls od H1 s x => q cls od σ' H1 (r'.same s) x
    | bad => rw [ht] at q; exact q
end
end Pv


/-! try with several clauses, each with or without a name -/
namespace Pv
open PySem PySem.Spec L2
open PyProof.Rows hiding St

/-- a clause: its class, its name's slot, its suite -/
structure Hd where
  c : Value
  o : Option Nat
  ts : Addr → Value → Option Addr → TS
/-- the ends of a suite whose name's slot is emptied behind it -/
def endsOf (D : Ends) : Option Nat → Ends
  | none => D
  | some i => { nx := fun σ H => D.nx (σ.set i none) H, rt := D.rt, bk := fun σ H => D.bk (σ.set i none) H, ct := fun σ H => D.ct (σ.set i none) H }
def putO (σ : St) (a : Addr) : Option Nat → St
  | none => σ
  | some i => σ.set i (some (.ref a))
def wHds (K : PySem.W.Frag) (Wo : WX) (D : Ends) : List Hd → WX
  | [] => Wo
  | z :: r => fun cls d σ H => ∃ b, PySem.W.exmOne K cls z.c = some b ∧ (b = true → ∀ a, H a = none → z.ts a cls d (endsOf D z.o) (putO σ a z.o) H) ∧ (b = false → wHds K Wo D r cls d σ H)
inductive Hds (X : Cx) : List ExceptHandler → List Hd → Prop
  | nil : Hds X [] []
  | cons {x : Str} {nm : Option Str} {z : Hd} {s0 : Stmt} {ss : List Stmt} {pa pb : Pos} {hs : List ExceptHandler} {l : List Hd} (hc : Names X x z.c)
      (hn : (nm = none ∧ z.o = none) ∨ ∃ n i, nm = some n ∧ z.o = some i ∧ X.N[i]? = some n ∧ X.env.kindOf n = some .local)
      (hb : ∀ (a : Addr) (oe : Obj) (cls : Value) (d : Option Addr) (pl : List (Addr × Obj)), Zc cls d oe → (∃ vs, oe.data = .fields vs) → PSs (X.suite a ((a, oe) :: pl)) (s0 :: ss) (z.ts a cls d)) (r : Hds X hs l) :
      Hds X (.ExceptHandler (some (.Name x pa)) nm (s0 :: ss) pb :: hs) (z :: l)
theorem sp_ends {X : Cx} {pins : List (Addr × Obj)} {a : Addr} {q : Addr × Obj} {pl : List (Addr × Obj)} {D : Ends} {f : Flow} {s : Shared} (ok : X.Ok) (h : SP (X.suite a (q :: (X.pn ++ pins))) [] D f s) : SP X pins D f s := by
  cases f with
  | next => obtain ⟨σ1, H1, I1, w1⟩ := h; exact ⟨σ1, H1, I1.unsuite ok, w1⟩
  | brk => obtain ⟨σ1, H1, I1, w1⟩ := h; exact ⟨σ1, H1, I1.unsuite ok, w1⟩
  | cont => obtain ⟨σ1, H1, I1, w1⟩ := h; exact ⟨σ1, H1, I1.unsuite ok, w1⟩
  | ret u => obtain ⟨v1, σ1, H1, I1, r1, w1⟩ := h; exact ⟨v1, σ1, H1, I1.unsuite ok, r1, w1⟩
theorem sp_tr {X : Cx} {pins pl : List (Addr × Obj)} {xe : Value → Shared → Prop} {D : Ends} {f : Flow} {s : Shared} (ok : X.Ok) (h : SP (X.tr (X.pn ++ pins) xe) pl D f s) : SP X pins D f s := by
  cases f with
  | next => obtain ⟨σ1, H1, I1, w1⟩ := h; exact ⟨σ1, H1, I1.ofTry ok, w1⟩
  | brk => obtain ⟨σ1, H1, I1, w1⟩ := h; exact ⟨σ1, H1, I1.ofTry ok, w1⟩
  | cont => obtain ⟨σ1, H1, I1, w1⟩ := h; exact ⟨σ1, H1, I1.ofTry ok, w1⟩
  | ret u => obtain ⟨v1, σ1, H1, I1, r1, w1⟩ := h; exact ⟨v1, σ1, H1, I1.ofTry ok, r1, w1⟩
theorem ps_hds {X : Cx} {body : List Stmt} {h0 : ExceptHandler} {hds : List ExceptHandler} {l : List Hd} {pos : Pos} {tb : WX → TS} {Wo : WX} (hN : X.N.Nodup) (hs : X.stack = X.env :: X.outer) (hf : X.env.frame = some X.env.locals) (tk : Takes X Wo)
    (hb : ∀ (W : WX) (pl : List (Addr × Obj)) (xe : Value → Shared → Prop), Takes (X.tr pl xe) W → PassesOwn (model X.prog X.w) X.A X.env xe → PSs (X.tr pl xe) body (tb W))
    (hh : Hds X (h0 :: hds) l) : PS X (.Try body (h0 :: hds) [] [] pos) (fun D σ H => tb (wHds X.K Wo D l) D σ H) := by
  refine ⟨fun pins s σ H D I wish => ?_⟩
  have okX := I.ok
  have hfrm : X.A.frames = some (X.env :: X.outer) := by rw [okX.frames, hs]
  let xe : Value → Shared → Prop := fun e s₁ => wpAny (model X.prog X.w) X.A (noteFrame e X.env) (fun _ s₂ => wpAny (model X.prog X.w) X.A (setFlight e none) (fun _ s₃ => wpAny (model X.prog X.w) X.A (handleBy e X.env (h0 :: hds)) (SP X pins D) X.xe s₃) X.xe s₂) X.xe s₁
  have htk : Takes (X.tr (X.pn ++ pins) xe) (wHds X.K Wo D l) := by
    intro u s' flown
    obtain ⟨a, B, sI, pl, σ1, H1, cls, d, rfl, I1, nb, up, sky, na, os, ag, w⟩ := flown
    have J : Inv X pins σ1 H1 sI := I1.ofTry okX
    have sk : Sky B (X.env :: X.outer) a (Zc cls d) X.env.locals s'.heap := hs ▸ sky
    show wpAny (model X.prog X.w) X.A (noteFrame (.ref a) X.env) _ _ _
    refine Sky.land Zc.steady hfrm hf sk fun g1 fl1 up1 => ?_
    have J1 : Inv X pins σ1 H1 { s' with heap := g1 } := J.landed nb fl1.1 (up.trans up1) os ag
    obtain ⟨o1, w1, ho1, hz1, hd1⟩ := fl1.there
    have out : a ∉ frs (X.env :: X.outer) := fun hm => by
      obtain ⟨_, o2, e2, no⟩ := fl1.2.2.1.mem hm
      rw [ho1] at e2; cases e2
      exact no _ hd1
    have aL : a ≠ X.env.locals := fun z => out (List.mem_filterMap.mpr ⟨X.env, List.mem_cons_self, by rw [hf, z]⟩)
    have aF : a ∉ X.fs := fun hm => by
      obtain ⟨en, hen, q⟩ := List.mem_filterMap.mp hm
      exact out (List.mem_filterMap.mpr ⟨en, List.mem_cons_of_mem _ hen, q⟩)
    have S1 := J1.suite ho1 hd1 na aL aF
    have clauses : ∀ {hs' : List ExceptHandler} {l' : List Hd}, Hds X hs' l' → wHds X.K Wo D l' cls d σ1 H1 → wpAny (model X.prog X.w) X.A (handleBy (.ref a) X.env hs') (SP X pins D) X.xe { s' with heap := g1 } := by
      intro hs' l' hk
      induction hk with
      | nil =>
        intro w
        refine wpAny_handleBy_nil ?_
        obtain ⟨k1, k2, k3, oe, vs, T, oT, ts', he, hz, hd, h1, hr⟩ := id fl1
        unfold PySem.passOn
        refine wpAny_bind (wpAny_field he hd h1 ?_)
        have hne : ¬ ((Value.ref T == Value.none) = true) := by simp
        rw [if_neg hne]
        have on : wpAny (model X.prog X.w) X.A (setFlight (.ref a) X.env.frame) (fun _ s4 => wpAny (model X.prog X.w) X.A (throw (.ref a) : Sem Flow) (SP X pins D) X.xe s4) X.xe { s' with heap := g1 } := by
          rw [hf]
          refine HandSPX.setFlight_upZ fl1 fun g2 held up2 => wpAny_throw (tk _ _ ⟨a, B, sI, pins, σ1, H1, cls, d, rfl, J, nb, (up.trans up1).trans up2, .inr (.inr (hs.symm ▸ held)), na, os, ag, w⟩)
        first | exact wpAny_bind (wpAny_pure (wpAny_bind on)) | exact wpAny_bind on
      | @cons x nm z s0 ss pa pb hs2 l2 hc hn hsu r ih =>
        intro w
        obtain ⟨b, hb1, yes, no⟩ := w
        have LT : PySem.W.Looks (model X.prog X.w) g1 (typeOf (.ref a)) cls := fun A Q E s kk q => wpAny_typeOf_ref (kk _ _ ho1) (by rw [hz1.1]; exact q)
        have LM := PySem.W.exm_one (M := model X.prog X.w) (J1.kIn) LT hb1
        refine wpAny_handleBy_cons (codeAny_handlers_test ?_) (by intro q; cases q)
        have ld : ∀ {Q E : Value → Shared → Prop}, Q z.c { s' with heap := g1 } → wpAny (model X.prog X.w) (X.A.mark (some (.ref a))) (eval (.Name x pa) X.env) Q E { s' with heap := g1 } := fun {Q E} q => by
          obtain ⟨hg, hdb, hm | ⟨hm, hv, hnn⟩⟩ := hc
          · exact ld_glob (X := X.suite a ((a, o1) :: (X.pn ++ pins))) S1 hg hm q hdb
          · exact ld_blt (X := X.suite a ((a, o1) :: (X.pn ++ pins))) S1 hg hm hv q hnn hdb
        refine ld (LM.here ?_)
        cases b with
        | false => exact ih (no rfl)
        | true =>
          rcases hn with ⟨rfl, hz0⟩ | ⟨n, i, rfl, hz0, hi, hl⟩
          · refine codeAny_handlers_suite ?_
            refine HandSPX.lands_againZ fl1 fun g2 fl2 up2 => ?_
            have J2 : Inv X pins σ1 H1 { s' with heap := g2 } := J.landed nb fl2.1 ((up.trans up1).trans up2) os ag
            obtain ⟨o2, w2, ho2, hz2, hd2⟩ := fl2.there
            have go := yes rfl a na
            rw [hz0] at go
            exact wpAny_mono ((hsu a o2 cls d (X.pn ++ pins) hz2 ⟨_, hd2⟩).run [] _ _ _ _ (J2.suite ho2 hd2 na aL aF) go) (fun f s6 e6 => sp_ends (pl := []) okX e6) (fun _ _ q => False.elim q)
          · refine codeAny_handlers_suite_as ?_
            refine HandSPX.lands_againZ fl1 fun g2 fl2 up2 => ?_
            have J2 : Inv X pins σ1 H1 { s' with heap := g2 } := J.landed nb fl2.1 ((up.trans up1).trans up2) os ag
            obtain ⟨o2, w2, ho2, hz2, hd2⟩ := fl2.there
            have go := yes rfl a na
            rw [hz0] at go
            refine store_ok (X := X.suite a ((a, o2) :: (X.pn ++ pins))) (v := .ref a) (J2.suite ho2 hd2 na aL aF) hN hi (.inl hl) rfl (fun s5 S5 => ?_) (.inr hl)
            refine wpAny_mono ((hsu a o2 cls d (X.pn ++ pins) hz2 ⟨_, hd2⟩).run [] s5 _ H1 _ S5 go) (fun f s6 e6 => ?_) (fun _ _ q => False.elim q)
            have clear : ∀ {σ6 : St} {H6 : Hp} {Q : Shared → Prop}, Inv (X.suite a ((a, o2) :: (X.pn ++ pins))) [] σ6 H6 s6 → (∀ s7, Inv X pins (σ6.set i none) H6 s7 → Q s7) →
              wpAny (model X.prog X.w) X.A (do bindName X.env n .none; unbindBehindTheSuite X.env n pb) (fun _ s7 => Q s7) X.xe s6 := fun {σ6 H6 Q} S6 hq => gone_ok (S6.unsuite okX) hN hi hl hq
            cases f with
            | next => obtain ⟨σ6, H6, S6, q6⟩ := e6; exact clear S6 fun s7 J7 => ⟨_, _, J7, q6⟩
            | brk => obtain ⟨σ6, H6, S6, q6⟩ := e6; exact clear S6 fun s7 J7 => ⟨_, _, J7, q6⟩
            | cont => obtain ⟨σ6, H6, S6, q6⟩ := e6; exact clear S6 fun s7 J7 => ⟨_, _, J7, q6⟩
            | ret u => obtain ⟨v6, σ6, H6, S6, r6, q6⟩ := e6; exact clear S6 fun s7 J7 => ⟨_, _, _, J7, r6, q6⟩
    exact clauses hh w
  refine wpAny_Try_except ?_
  refine wpAny_mono ((hb _ (X.pn ++ pins) xe htk PassesOwn.looking).run [] s σ H D (I.toTry _) wish) (fun f s1 e1 => ?_) (fun e s1 he => he)
  have e2 : SP X pins D f s1 := sp_tr okX e1
  cases f with
  | next => obtain ⟨σ1, H1, I1, w1⟩ := e2; exact wpAny_execs_nil ⟨σ1, H1, I1, w1⟩
  | brk => exact e2
  | cont => exact e2
  | ret u => exact e2
end Pv


/-! raise, try; the statements' compiler -/
namespace Pv
open PySem PySem.Spec L2
open PyProof.Rows hiding St

structure HdC where
  t : Str
  o : Option Nat
  su : CS
def noX (ρ : En) : Bool := ρ.all fun s => match s with
  | .exn _ _ => false
  | _ => true
def clr (i : Nat) (ρ : En) (k : En → Fw) : Fw := if noX (ρ.set i .no) = true then k (ρ.set i .no) else .bad
def suiteF (h : HdC) (n : Str) (ds : List PyData) (ρ : En) : Fw := match h.o with
  | none => (match h.su ρ with
    | .exc _ _ _ => .bad
    | r => r)
  | some i => (match h.su (ρ.set i (.exn n ds)) with
    | .nx ρ' => clr i ρ' .nx
    | .bk ρ' => clr i ρ' .bk
    | .ct ρ' => clr i ρ' .ct
    | .rt d => .rt d
    | _ => .bad)
def tryH (G : GI) : List HdC → Str → List PyData → En → Fw
  | [], n, ds, ρ => .exc n ds ρ
  | h :: r, n, ds, ρ => if G.has n = true then (if h.t ∈ G.ups n then suiteF h n ds ρ else tryH G r n ds ρ) else .bad
def sTry (G : GI) (b : CS) (hs : List HdC) : CS := fun ρ => match b ρ with
  | .exc n ds ρ' => tryH G hs n ds ρ'
  | r => r
def sRaise (G : GI) (x : Str) (cs : List CE) : CS := fun ρ => match cAll cs ρ with
  | .ok ds => if G.flds x = [] then .exc x [] ρ else if ds.length = (G.flds x).length then .exc x ds.reverse ρ else .bad
  | .exc n ds => .exc n ds ρ
  | .bad => .bad
section
variable {K : PySem.W.Frag} {Gr : Gx} {F M : Addr → Prop} {H₀ H H' : Hp} {ρ : En} {σ : St}
theorem RE.noex (r : RE K Gr F H₀ M ρ σ H) (hx : Gr.sx = none) {z : Option (Addr × Addr × Option Addr)} : RE K { Gr with sx := z } F H₀ M ρ σ H :=
  ⟨r.len, r.pl, r.ow, r.un, r.frm, r.own, r.fn, fun i n ds e => by
    obtain ⟨a, C, od, e1, _⟩ := r.ex i n ds e
    rw [hx] at e1; cases e1⟩
theorem RE.unex {z : Option (Addr × Addr × Option Addr)} (r : RE K { Gr with sx := z } F H₀ M ρ σ H) (hn : noX ρ = true) : RE K Gr F H₀ M ρ σ H :=
  ⟨r.len, r.pl, r.ow, r.un, r.frm, r.own, r.fn, fun i n ds e => by
    have := List.all_eq_true.mp hn _ (List.mem_of_getElem? e)
    cases this⟩
/-- the caught one at its name -/
theorem RE.caught {a C : Addr} {od : Option Addr} {n : Str} {ds : List PyData} {i : Nat} (r : RE K { Gr with sx := some (a, C, od) } F H₀ M ρ σ H) (x : XR K Gr (FF F ρ σ) H n ds (.ref C) od) :
    RE K { Gr with sx := some (a, C, od) } F H₀ M (ρ.set i (.exn n ds)) (σ.set i (some (.ref a))) H := by
  have nn : ∀ d, Sl.exn n ds ≠ .dat d true := fun d z => by cases z
  have hl : ∀ b, FF F (ρ.set i (.exn n ds)) (σ.set i (some (.ref a))) b → FF F ρ σ b := fun b z => z.imp id (own_set nn)
  refine ⟨by simp [r.len], fun j d e => ?_, fun j d e => ?_, fun j l d e b e1 e2 e3 e4 => ?_, r.frm, fun b z => r.own b (own_set nn z), r.fn, fun j m es e => ?_⟩
  · rcases get_new e with ⟨_, _, e⟩ | ⟨hij, e⟩
    · cases e
    · obtain ⟨v, e1, rv⟩ := r.pl j d e
      exact ⟨v, by rw [get_oth hij]; exact e1, rv.less hl⟩
  · rcases get_new e with ⟨_, _, e⟩ | ⟨hij, e⟩
    · cases e
    · obtain ⟨es, b, vs, e0, e1, e2, rv⟩ := r.ow j d e
      exact ⟨es, b, vs, e0, by rw [get_oth hij]; exact e1, e2, rv.less hl⟩
  · rcases get_new e1 with ⟨_, _, e1⟩ | ⟨h1, e1⟩
    · cases e1
    · rcases get_new e2 with ⟨_, _, e2⟩ | ⟨h2, e2⟩
      · cases e2
      · rw [get_oth h1] at e3
        rw [get_oth h2] at e4
        exact r.un j l d e b e1 e2 e3 e4
  · rcases get_new e with ⟨hij, hlt, e⟩ | ⟨hij, e⟩
    · cases e
      subst hij
      have x' : XR K { Gr with sx := some (a, C, od) } (FF F ρ σ) H n ds (.ref C) od := x
      exact ⟨a, C, od, rfl, get_set (by rw [← r.len]; exact hlt), x'.less hl⟩
    · obtain ⟨b, C', od', e1, e2, y⟩ := r.ex j m es e
      exact ⟨b, C', od', e1, by rw [get_oth hij]; exact e2, y.less hl⟩
/-- a clause's reading -/
def suTS (K : PySem.W.Frag) (Gr : Gx) (h : HdC) : Addr → Value → Option Addr → TS := fun a cls d D σ H => match h.o with
  | none => tSt K Gr W0 h.su D σ H
  | some _ => ∃ C, cls = .ref C ∧ tSt K { Gr with sx := some (a, C, d) } W0 h.su D σ H
def hdOf (K : PySem.W.Frag) (Gr : Gx) (cv : Str → Value) (h : HdC) : Hd := ⟨cv h.t, h.o, suTS K Gr h⟩
theorem suite_run {h : HdC} {n : Str} {ds : List PyData} {D : Ends} {W : WX} {a C : Addr} {od : Option Addr} (hx : Gr.sx = none) (r : RE K Gr F H₀ M ρ σ H) (x : XR K Gr (FF F ρ σ) H n ds (.ref C) od) (p : FPost K Gr W F H₀ M D (suiteF h n ds ρ)) :
    suTS K Gr h a (.ref C) od (endsOf D h.o) (putO σ a h.o) H := by
  obtain ⟨t, o, su⟩ := h
  cases o with
  | none =>
    refine ⟨F, H₀, M, ρ, r, ?_⟩
    unfold suiteF at p
    dsimp only at p
    show FPost K Gr W0 F H₀ M D (su ρ)
    cases hs : su ρ with
    | exc m es ρ' => rw [hs] at p; exact False.elim p
    | nx ρ' => rw [hs] at p; exact p
    | rt d => rw [hs] at p; exact p
    | bk ρ' => rw [hs] at p; exact p
    | ct ρ' => rw [hs] at p; exact p
    | bad => rw [hs] at p; exact p
  | some i =>
    refine ⟨C, rfl, F, H₀, M, ρ.set i (.exn n ds), RE.caught (r.noex hx) x, ?_⟩
    unfold suiteF at p
    dsimp only at p
    show FPost K { Gr with sx := some (a, C, od) } W0 F H₀ M (endsOf D (some i)) (su (ρ.set i (.exn n ds)))
    have cl : ∀ {ρ' : En} {k : En → Fw} {G' : St → Hp → Prop}, FPost K Gr W F H₀ M D (clr i ρ' k) → (FPost K Gr W F H₀ M D (k (ρ'.set i .no)) → ∀ σ' H', RE K Gr F H₀ M (ρ'.set i .no) σ' H' → G' σ' H') →
        ∀ σ' H', RE K { Gr with sx := some (a, C, od) } F H₀ M ρ' σ' H' → G' (σ'.set i none) H' := by
      intro ρ' k G' q hk σ' H' r'
      unfold clr at q
      split at q
      · rename_i hn
        exact hk q _ _ (RE.unex (r'.put (s := .no) (u := none) trivial) hn)
      · exact False.elim q
    cases hs : su (ρ.set i (.exn n ds)) with
    | exc m es ρ' => rw [hs] at p; exact False.elim p
    | bad => rw [hs] at p; exact False.elim p
    | rt d => rw [hs] at p; exact p
    | nx ρ' => rw [hs] at p; exact cl p fun q => q
    | bk ρ' => rw [hs] at p; exact cl p fun q => q
    | ct ρ' => rw [hs] at p; exact cl p fun q => q
theorem hds_run {G : GI} {mg : Str → Option Value} {cv : Str → Value} {D : Ends} {W : WX} (hx : Gr.sx = none) (hm : Gr.mg = mg) (hc : ∀ n C, G.has n = true → mg n = some (.ref C) → ClOk G K mg n C) {n : Str} {ds : List PyData} {C : Addr} {od : Option Addr} (r : RE K Gr F H₀ M ρ σ H) (x : XR K Gr (FF F ρ σ) H n ds (.ref C) od) :
    ∀ {hs : List HdC}, (∀ h ∈ hs, ClsOf G mg h.t (cv h.t)) → FPost K Gr W F H₀ M D (tryH G hs n ds ρ) → wHds K W D (hs.map (hdOf K Gr cv)) (.ref C) od σ H
  | [], _, p => p (.ref C) od σ H r x
  | h :: hs, hv, p => by
    unfold tryH at p
    split at p
    · rename_i hn
      have hC : mg n = some (.ref C) := by
        obtain ⟨C2, x1, x2, _⟩ := x
        cases x2
        rw [← hm]; exact x1
      have c := hc n C hn hC
      refine ⟨decide (h.t ∈ G.ups n), c.ex _ _ (hv h (by simp)), fun hy a ha => ?_, fun hno => ?_⟩
      · rw [if_pos (of_decide_eq_true hy)] at p
        exact suite_run hx r x p
      · rw [if_neg (of_decide_eq_false hno)] at p
        exact hds_run hx hm hc r x (fun z hz => hv z (List.mem_cons_of_mem _ hz)) p
    · exact False.elim p
theorem st_try {G : GI} {mg : Str → Option Value} {cv : Str → Value} {D : Ends} {W : WX} {b : CS} {hs : List HdC} (hx : Gr.sx = none) (hm : Gr.mg = mg) (hc : ∀ n C, G.has n = true → mg n = some (.ref C) → ClOk G K mg n C) (hv : ∀ h ∈ hs, ClsOf G mg h.t (cv h.t)) (h : tSt K Gr W (sTry G b hs) D σ H) :
    tSt K Gr (wHds K W D (hs.map (hdOf K Gr cv))) b D σ H := by
  obtain ⟨F, H₀, M, ρ, re, p⟩ := h
  refine ⟨F, H₀, M, ρ, re, ?_⟩
  unfold sTry at p
  cases hb : b ρ with
  | nx ρ' => rw [hb] at p; exact p
  | rt d => rw [hb] at p; exact p
  | bk ρ' => rw [hb] at p; exact p
  | ct ρ' => rw [hb] at p; exact p
  | bad => rw [hb] at p; exact p
  | exc n ds ρ' =>
    rw [hb] at p
    intro cls od σ' H' r' x
    obtain ⟨C, x1, rfl, x3⟩ := id x
    exact hds_run hx hm hc r' x hv p
end
section
variable {K : PySem.W.Frag} {Gr : Gx} {D : Ends} {σ : St} {H : Hp} {W : WX}
theorem rps_rev {F : Addr → Prop} {ds : List PyData} {vs : List V} (h : Rps K F H ds vs) : Rps K F H ds.reverse vs.reverse := Rps.rev h
theorem st_raise {G : GI} {x : Str} {C : Addr} {cs : List CE} (hf : Gr.flds = G.flds) (hm : Gr.mg x = some (.ref C)) (h : tSt K Gr W (sRaise G x cs) D σ H) :
    tEs K Gr W (cAll cs) σ H fun vs H1 => (G.flds x = [] → W (.ref C) none σ H1) ∧ (G.flds x ≠ [] → vs.length = (G.flds x).length ∧ ∀ dx, H1 dx = none → W (.ref C) (some dx) σ (upd H1 dx (.xd ((G.flds x).zip vs.reverse)))) := by
  obtain ⟨F, H₀, M, ρ, re, p⟩ := h
  refine ⟨F, H₀, M, ρ, re, ?_⟩
  unfold sRaise at p
  cases hc : cAll cs ρ with
  | ok ds =>
    rw [hc] at p
    dsimp only at p
    intro vs H1 s r
    split at p
    · rename_i hn
      exact ⟨fun _ => p (.ref C) none σ H1 (re.same s) ⟨C, hm, rfl, .inl ⟨by rw [hf]; exact hn, rfl, rfl⟩⟩, fun z => absurd hn z⟩
    · rename_i hn
      split at p
      · rename_i hl
        have hlen := r.length
        refine ⟨fun z => absurd z hn, fun _ => ⟨by omega, fun dx ndx => ?_⟩⟩
        have s2 := same_upd (o := .xd ((G.flds x).zip vs.reverse)) ndx
        refine p (.ref C) (some dx) σ _ (re.same (s.trans s2)) ⟨C, hm, rfl, .inr ⟨by rw [hf]; exact hn, dx, vs.reverse, rfl, by rw [hf]; exact upd_same, by rw [hf]; simp; omega, (Rps.rev r).same s2⟩⟩
      · exact False.elim p
  | exc n ds => rw [hc] at p; exact fun cls od H1 s x => p cls od σ H1 (re.same s) x
  | bad => rw [hc] at p; exact p
end
end Pv


/-! statements: compiled, sound -/
namespace Pv
open PySem PySem.Spec L2
open PyProof.Rows hiding St

/-! which lists of one's own a text hands on -/
mutual
def leak : Nat → Lc → Expr → List Nat
  | 0, _, _ => []
  | n + 1, L, e => match e with
    | .Name x _ => (L.slot x).toList
    | e => leakR n L e
/-- at a place that only reads -/
def leakR : Nat → Lc → Expr → List Nat
  | 0, _, _ => []
  | n + 1, L, e => match e with
    | .IfExp t a b _ => leakR n L t ++ leak n L a ++ leak n L b
    | .BoolOp _ es _ => leaks n L es
    | .Tuple es _ _ => leaks n L es
    | .List es _ => leaks n L es
    | .BinOp a _ b _ => leakR n L a ++ leakR n L b
    | .UnaryOp _ a _ => leakR n L a
    | .Compare a _ bs _ => leakR n L a ++ leakRs n L bs
    | .Subscript a i _ => leakR n L a ++ leakR n L i
    | .Call _ as _ _ => leakRs n L as
    | .ListComp elt [⟨_, it, ifs, _⟩] sc _ => leakR n L it ++ leak n { N := L.N, nm := sc.names } elt ++ leakRs n { N := L.N, nm := sc.names } ifs
    | _ => []
def leaks : Nat → Lc → List Expr → List Nat
  | 0, _, _ => []
  | n + 1, L, es => match es with
    | [] => []
    | e :: r => leak n L e ++ leaks n L r
def leakRs : Nat → Lc → List Expr → List Nat
  | 0, _, _ => []
  | n + 1, L, es => match es with
    | [] => []
    | e :: r => leakR n L e ++ leakRs n L r
end
def noComp : Expr → Bool
  | .ListComp _ _ _ _ => false
  | .SetComp _ _ _ _ => false
  | .DictComp _ _ _ _ _ => false
  | _ => true
def noTup : Expr → Bool
  | .Tuple _ _ _ => false
  | _ => true
/-- the comprehension's value goes to the name within -/
def swB (L : Lc) (y : Str) (sc : Scope) (py lp : Pos) : Bool := (L.nm.lookup y == some .local) && (py.line == lp.line) && !(sc.names.any fun (n, k) => n == y && (k == .local || k == .cell))
def oneName : Expr → Bool
  | .Call (.Name _ _) [] [] _ => false
  | _ => true
variable (G : GI) (Φ : Ph) (wn : Nat)
mutual
def cS : Nat → Lc → Stmt → Option CS
  | 0, _, _ => none
  | n + 1, L, s => match s with
    | .Expr e pos => (match e with
      | .Constant (.str _) _ _ => some sNx
      | .Call (.Attribute (.Name x px) m apos) [a] [] cpos => if m = ("append" : Str) ∧ notStar a = true ∧ (apos.endLine == cpos.line) = true then (do
        let i ← L.slot x
        let (_, c) ← cE G Φ n L a
        some (disow (leak n L a) (sApp i c))) else none
      | e => if noComp e = true then (do
        let (_, c) ← cE G Φ n L e
        some (sDrop c)) else none)
    | .Assign [t] e pos => (match t with
      | .Name x px => (do
        let i ← L.lslot x
        match e with
        | .ListComp elt [⟨tg, it, ifs, ia⟩] sc lp => if ia = 0 ∧ (L.calm && notSet it) = true then (do
          let (_, c) ← lcParts G Φ n L elt tg it ifs sc
          some (disow (leak n L e) (sSet i true c))) else none
        | e => if noComp e = true then (do
          let (fr, c) ← cE G Φ n L e
          some (disow (leak n L e) (sSet i fr c))) else none)
      | .Tuple es k p => if noComp e && noTup e && L.calm then (do
        let g ← tgOf L (.Tuple es k p)
        let (_, c) ← cE G Φ n L e
        some (disow (leak n L e) (sTg g c))) else none
      | .Subscript (.Name x px) j tp => if (noComp e && !slc j) = true then (do
        let i ← L.slot x
        let cj ← cB G Φ n L j
        let (_, c) ← cE G Φ n L e
        some (disow (leak n L e) (sPut i cj c))) else none
      | _ => none)
    | .Return o pos => (match o with
      | none => some sRetN
      | some e => (do
        let (_, c) ← cE G Φ n L e
        some (disow (leak n L e) (sRet c))))
    | .If t a b pos => (do
      let ct ← cT G Φ n L t
      let ca ← cSs n L a
      let cb ← cSs n L b
      some (sIf ct ca cb))
    | .For tg it body [] pos => if (L.calm && notSet it) = true then (do
      let g ← tgOf L tg
      let ci ← cI G Φ n L false it
      let cb ← cSs n L body
      some (disow (leak n L it) (sFor ci g cb))) else none
    | .While t body [] pos => if L.calm = true then (do
      let ct ← cT G Φ n L t
      let cb ← cSs n L body
      some (sWhile wn ct cb)) else none
    | .Pass _ => some sNx
    | .Break _ => some sBk
    | .Continue _ => some sCt
    | .Raise (some (.Call (.Name x px) (a :: as) [] cp)) none pos => if (L.calm && L.glob x && G.has x && (a :: as).all notStar && decide ((a :: as).length ≤ 1000)) = true then (do
      let cs ← cEs G Φ n L (a :: as)
      some (disow (leaks n L (a :: as)) (sRaise G x cs))) else none
    | .Try body (h :: hs) [] [] pos => if L.calm = true then (do
      let cb ← cSs n L body
      let hc ← cHs n L (h :: hs)
      some (sTry G cb hc)) else none
    | _ => none
def cSs : Nat → Lc → List Stmt → Option CS
  | 0, _, _ => none
  | n + 1, L, ss => match ss with
    | [] => some sNx
    | s :: r => (do
      let c ← cS n L s
      let d ← cSs n L r
      some (sSeq c d))
def cHs : Nat → Lc → List ExceptHandler → Option (List HdC)
  | 0, _, _ => none
  | n + 1, L, hs => match hs with
    | [] => some []
    | .ExceptHandler (some (.Name t _)) o (s :: ss) _ :: r => if L.glob t && G.clsName t then (do
      let i ← (match o with
        | none => some none
        | some x => if L.nm.lookup x = some .local then (L.lslot x).map some else none)
      let su ← cSs n { L with calm := false, en := o } (s :: ss)
      let l ← cHs n L r
      some (⟨t, i, su⟩ :: l)) else none
    | _ => none
end
end Pv


namespace Pv
open PySem PySem.Spec L2
open PyProof.Rows hiding St
open Classical in
noncomputable def cvOf (G : GI) (mg : Str → Option Value) (t : Str) : Value := if h : ∃ cv, ClsOf G mg t cv then choose h else .none
theorem cvOf_ok {G : GI} {mg : Str → Option Value} {t : Str} (h : ∃ cv, ClsOf G mg t cv) : ClsOf G mg t (cvOf G mg t) := by
  unfold cvOf
  rw [dif_pos h]
  exact Classical.choose_spec h
section
variable {Gr : Gx} {G : GI} {Φ : Ph} {k : Nat} {L : Lc} {X : Cx} {W : WX}
theorem GOk.sx {P : Program} {w : World} {K : PySem.W.Frag} {mg : Str → Option Value} {base : Heap} {z : Option (Addr × Addr × Option Addr)} (g : GOk Gr G Φ k P w K mg base) : GOk { Gr with sx := z } G Φ k P w K mg base :=
  ⟨g.bi, g.fns, g.cls, g.nms, g.mkx, g.cons⟩
theorem SOk.suite (ok : SOk Gr G Φ k L X W) {o : Option Str} {a C : Addr} {oe : Obj} {od : Option Addr} {pl : List (Addr × Obj)} (hz : Zc (.ref C) od oe) (hf : ∃ vs, oe.data = .fields vs) :
    SOk { Gr with sx := some (a, C, od) } G Φ k { L with calm := false, en := o } (X.suite a ((a, oe) :: pl)) W0 where
  calm := fun z => by cases z
  room := fun z => by cases z
  un := ok.un
  tk := takes0
  nm := ⟨ok.nm.N, ok.nm.nd, ok.nm.loc, ok.nm.cel, ok.nm.fre, ok.nm.glo, ok.nm.fn⟩
  gl := ok.gl.sx
  fl := ok.fl
  mg := ok.mg
  sxc := fun z => by cases z
  sx := fun a' C' od' e => by
    cases e
    exact ⟨X, oe, pl, rfl, hz, hf⟩
  kd := ok.kd
  pa := fun z => by cases z
  st := ok.st
  fr := ok.fr
theorem SOk.suite0 (ok : SOk Gr G Φ k L X W) (hx : Gr.sx = none) {o : Option Str} {a : Addr} {oe : Obj} {pl : List (Addr × Obj)} : SOk Gr G Φ k { L with calm := false, en := o } (X.suite a ((a, oe) :: pl)) W0 where
  calm := fun z => by cases z
  room := fun z => by cases z
  un := ok.un
  tk := takes0
  nm := ⟨ok.nm.N, ok.nm.nd, ok.nm.loc, ok.nm.cel, ok.nm.fre, ok.nm.glo, ok.nm.fn⟩
  gl := ok.gl
  fl := ok.fl
  mg := ok.mg
  sxc := fun z => by cases z
  sx := fun a' C' od' e => by rw [hx] at e; cases e
  kd := ok.kd
  pa := fun z => by cases z
  st := ok.st
  fr := ok.fr
theorem SOk.tr (ok : SOk Gr G Φ k L X W) (hx : Gr.sx = none) {W' : WX} {pl : List (Addr × Obj)} {xe : Value → Shared → Prop} (tk : Takes (X.tr pl xe) W') (pa : PassesOwn (model X.prog X.w) X.A X.env xe) : SOk Gr G Φ k L (X.tr pl xe) W' where
  calm := ok.calm
  room := ok.room
  un := ok.un
  tk := tk
  nm := ⟨ok.nm.N, ok.nm.nd, ok.nm.loc, ok.nm.cel, ok.nm.fre, ok.nm.glo, ok.nm.fn⟩
  gl := ok.gl
  fl := ok.fl
  mg := ok.mg
  sxc := ok.sxc
  sx := fun a' C' od' e => by rw [hx] at e; cases e
  kd := ok.kd
  pa := fun _ => pa
  st := ok.st
  fr := ok.fr
theorem sw_no {e : Expr} {t : Option Expr} {ln : Nat} {env : Env} (h : noComp e = true) : swapsWith e t ln env = pure false := by
  cases e <;> first | rfl | cases h
theorem sw_lc {elt : Expr} {gs : List Comprehension} {sc : Scope} {lp py : Pos} {y : Str} {ln : Nat} {env : Env} : swapsWith (.ListComp elt gs sc lp) (some (.Name y py)) ln env = pure (env.blockKind == .function && env.kindOf y == some .local && py.line == lp.line && !(sc.names.any fun (n, k) => n == y && (k == .local || k == .cell))) := rfl
theorem stores_no {es : List Expr} {j : Nat} {p : Pos} {e : Expr} {env : Env} (h : noTup e = true) : swappedStores [.Tuple es j p] e env = pure none := by
  cases e <;> first | rfl | cases h
theorem asg_sub {o j : Expr} {tp : Pos} {env : Env} (h : (!slc j) = true) : ∀ v, assign (.Subscript o j tp) env v = (do
      let ov ← holding [v] (eval o env)
      let iv ← holding [v, ov] (eval j env)
      standAt tp
      holding [v, ov, iv] (setItem ov iv v)
      release [v, ov, iv] []) := by
  cases j <;> first | (intro v; rfl) | cases h
theorem bk_fn (ok : SOk Gr G Φ k L X W) : (X.env.blockKind == ScopeKind.function) = true := by
  unfold Env.blockKind
  rw [ok.kd]
  rfl
end
structure SndS (G : GI) (Φ : Ph) (wn n : Nat) : Prop where
  S : ∀ {Gr : Gx} {k : Nat} {L : Lc} {X : Cx} {W : WX}, SOk Gr G Φ k L X W → ∀ (s : Stmt) (c : CS), cS G Φ wn n L s = some c → PS X s (tSt X.K Gr W c)
  Ss : ∀ {Gr : Gx} {k : Nat} {L : Lc} {X : Cx} {W : WX}, SOk Gr G Φ k L X W → ∀ (ss : List Stmt) (c : CS), cSs G Φ wn n L ss = some c → PSs X ss (tSt X.K Gr W c)
  Hs : ∀ {Gr : Gx} {k : Nat} {L : Lc} {X : Cx} {W : WX}, SOk Gr G Φ k L X W → Gr.sx = none → ∀ (hs : List ExceptHandler) (hc : List HdC), cHs G Φ wn n L hs = some hc → Hds X hs (hc.map (hdOf X.K Gr (cvOf G X.mg))) ∧ ∀ h ∈ hc, ClsOf G X.mg h.t (cvOf G X.mg h.t)
section
variable {Gr : Gx} {G : GI} {Φ : Ph} {wn n k : Nat} {L : Lc} {X : Cx} {W : WX}
theorem S_expr0 (ok : SOk Gr G Φ k L X W) {e : Expr} {pos : Pos} {c : CS} (h : (if noComp e = true then (cE G Φ n L e >>= fun y => some (sDrop y.2)) else none) = some c) : PS X (.Expr e pos) (tSt X.K Gr W c) := by
  split at h
  · rename_i hn
    obtain ⟨⟨fr, c'⟩, h1, h⟩ := obind h
    cases h
    exact PS.imp (ps_expr ((snd n).E ok.toEOk e fr c' h1).e (sw_no hn)) fun D σ H => st_drop
  · cases h
theorem S_app (ok : SOk Gr G Φ k L X W) {x : Str} {px apos cpos pos : Pos} {a : Expr} {i : Nat} {fr : Bool} {c : CE} (hs : notStar a = true) (hl : (apos.endLine == cpos.line) = true) (hi : L.slot x = some i) (hc : cE G Φ n L a = some (fr, c)) :
    PS X (.Expr (.Call (.Attribute (.Name x px) "append" apos) [a] [] cpos) pos) (tSt X.K Gr W (sApp i c)) := by
  have s := slot_ok ok.nm hi
  exact PS.imp (ps_expr (pe_bm PySem.F.plainAttrs_list PySem.F.slot_list_append PySem.F.type_list_append mt_append (pe_var s.at_ s.vis s.d1 s.d2) (pa_cons ((snd n).E ok.toEOk a fr c hc).e pa_nil (star_cons hs)) rfl (by rw [star_cons hs]; rfl) hl (star_cons hs) rfl)) fun D σ H => st_app
theorem S_expr (ok : SOk Gr G Φ k L X W) {e : Expr} {pos : Pos} {c : CS} (h : cS G Φ wn (n + 1) L (.Expr e pos) = some c) : PS X (.Expr e pos) (tSt X.K Gr W c) := by
  cases e with
  | Constant v j p =>
    cases v with
    | str z => cases h; exact PS.imp ps_doc fun D σ H => st_nx
    | _ => exact S_expr0 ok h
  | Call f as ks cpos =>
    cases f with
    | Attribute o m apos =>
      cases o with
      | Name x px =>
        rcases as with _ | ⟨a, _ | ⟨b, as⟩⟩
        · exact S_expr0 ok h
        · rcases ks with _ | ⟨k1, ks⟩
          · have h5 : (if m = ("append" : Str) ∧ notStar a = true ∧ (apos.endLine == cpos.line) = true then (L.slot x >>= fun i => cE G Φ n L a >>= fun y => some (disow (leak n L a) (sApp i y.2))) else none) = some c := h
            clear h
            split at h5
            · rename_i hc
              obtain ⟨rfl, h1, h2⟩ := hc
              obtain ⟨i, h3, h5⟩ := obind h5
              obtain ⟨⟨fr, c'⟩, h4, h5⟩ := obind h5
              cases h5
              exact PS.imp (S_app ok h1 h2 h3 h4) fun D σ H => tSt_dis
            · cases h5
          · exact S_expr0 ok h
        · exact S_expr0 ok h
      | _ => exact S_expr0 ok h
    | _ => exact S_expr0 ok h
  | ListComp _ _ _ _ => cases h
  | SetComp _ _ _ _ => cases h
  | DictComp _ _ _ _ _ => cases h
  | _ => exact S_expr0 (n := n) ok h
theorem S_set0 (ok : SOk Gr G Φ k L X W) {x : Str} {px pos : Pos} {e : Expr} {i : Nat} {c : CS} (hi : L.lslot x = some i) (h : (if noComp e = true then (cE G Φ n L e >>= fun y => some (disow (leak n L e) (sSet i y.1 y.2))) else none) = some c) : PS X (.Assign [.Name x px] e pos) (tSt X.K Gr W c) := by
  split at h
  · rename_i hn
    obtain ⟨⟨fr, c'⟩, h1, h⟩ := obind h
    cases h
    have s := lslot_ok ok.nm hi
    have q := (snd n).E ok.toEOk e fr c' h1
    cases fr with
    | true => exact PS.imp (ps_set ok.nm.nodup s.at_ s.loc q.1 (sw_no hn) s.hf) fun D σ H h => st_setF (tSt_dis h)
    | false => exact PS.imp (ps_set ok.nm.nodup s.at_ s.loc q.1 (sw_no hn) s.hf) fun D σ H h => st_set (tSt_dis h)
  · cases h
theorem asg_lc {K : PySem.W.Frag} {D : Ends} {σ : St} {H : Hp} {is : List Nat} {i : Nat} {ci : CI} {g : Tg} {t : CT} {e : CE} {vs : List Nat} (hg : ∀ i ∈ g.ixs, i ∈ vs) (h : tSt K Gr W (disow is (sSet i true (cComp ci vs g t e))) D σ H) :
    tAsg (tLc (tIt K Gr W true ci) (tTg K g) (tTst K Gr W0 t) (tE K Gr W0 e) vs) (gName i) D σ H := by
  have h2 := st_setF (tSt_dis h)
  exact tF_comp hg h2
theorem S_setLc (ok : SOk Gr G Φ k L X W) {x : Str} {px lp pos : Pos} {elt tg it : Expr} {ifs : List Expr} {sc : Scope} {i : Nat} {is : List Nat} {c : CS} (hi : L.lslot x = some i) (hcl : L.calm = true) (hns : notSet it = true)
    (h : (lcParts G Φ n L elt tg it ifs sc >>= fun y => some (disow is (sSet i true y.2))) = some c) : PS X (.Assign [.Name x px] (.ListComp elt [⟨tg, it, ifs, 0⟩] sc lp) pos) (tSt X.K Gr W c) := by
  obtain ⟨⟨fr, c'⟩, h1, h⟩ := obind h
  cases h
  obtain ⟨ci, g, t, e, rfl, rfl, a1, a2, a3, a4, a5, a6⟩ := lc_parts (snd n) ok.toEOk hcl h1
  have s := lslot_ok ok.nm hi
  cases hb : (X.env.blockKind == ScopeKind.function && X.env.kindOf x == some .local && px.line == lp.line && !(sc.names.any fun (n, k) => n == x && (k == .local || k == .cell))) with
  | true =>
    have hl : X.env.scope.names.lookup x = some .local := by
      simp only [Bool.and_eq_true, beq_iff_eq] at hb
      exact hb.1.1.2
    exact PS.imp (ps_setLc (ok.calm hcl) ok.nm.nodup s.at_ hl (by rw [sw_lc, hb]) a2 a3 a4 a5 a6 (folded_of hns)) fun D σ H => asg_lc a1
  | false =>
    exact PS.imp (ps_set ok.nm.nodup s.at_ s.loc (pe_lc (ok.calm hcl) ok.nm.nodup a2 a3 a4 a5 a6 (folded_of hns)) (by rw [sw_lc, hb]) s.hf) fun D σ H => asg_lc a1
theorem S_setN (ok : SOk Gr G Φ k L X W) {x : Str} {px pos : Pos} {e : Expr} {c : CS} (h : cS G Φ wn (n + 1) L (.Assign [.Name x px] e pos) = some c) : PS X (.Assign [.Name x px] e pos) (tSt X.K Gr W c) := by
  have go : (L.lslot x >>= fun i => if noComp e = true then (cE G Φ n L e >>= fun y => some (disow (leak n L e) (sSet i y.1 y.2))) else none) = some c → PS X (.Assign [.Name x px] e pos) (tSt X.K Gr W c) := fun h => by
    obtain ⟨i, hi, h⟩ := obind h
    exact S_set0 ok hi h
  cases e with
  | ListComp elt gs sc lp =>
    rcases gs with _ | ⟨⟨tg, it, ifs, ia⟩, _ | ⟨g2, gs⟩⟩
    · exact go h
    · have h5 : (L.lslot x >>= fun i => if ia = 0 ∧ (L.calm && notSet it) = true then (lcParts G Φ n L elt tg it ifs sc >>= fun y => some (disow (leak n L (.ListComp elt [⟨tg, it, ifs, ia⟩] sc lp)) (sSet i true y.2))) else none) = some c := h
      clear h go
      obtain ⟨i, hi, h5⟩ := obind h5
      split at h5
      · rename_i hc
        obtain ⟨rfl, hc⟩ := hc
        rw [Bool.and_eq_true] at hc
        exact S_setLc ok hi hc.1 hc.2 h5
      · cases h5
    · exact go h
  | _ => exact go h
theorem S_asg (ok : SOk Gr G Φ k L X W) {ts : List Expr} {pos : Pos} {e : Expr} {c : CS} (h : cS G Φ wn (n + 1) L (.Assign ts e pos) = some c) : PS X (.Assign ts e pos) (tSt X.K Gr W c) := by
  rcases ts with _ | ⟨t, _ | ⟨t2, ts⟩⟩
  · cases h
  · cases t with
    | Name x px => exact S_setN ok h
    | Tuple es j p =>
      have h5 : (if (noComp e && noTup e && L.calm) = true then (tgOf L (.Tuple es j p) >>= fun g => cE G Φ n L e >>= fun y => some (disow (leak n L e) (sTg g y.2))) else none) = some c := h
      clear h
      split at h5
      · rename_i hc
        rw [Bool.and_eq_true, Bool.and_eq_true] at hc
        obtain ⟨g, h1, h5⟩ := obind h5
        obtain ⟨⟨fr, c'⟩, h2, h5⟩ := obind h5
        cases h5
        exact PS.imp (ps_asg ((snd n).E ok.toEOk e fr c' h2).e (tg_pg ok.nm (ok.calm hc.2) h1) (by unfold swapsWithSole; exact sw_no hc.1.1) (stores_no hc.1.2)) fun D σ H h => st_tg (tSt_dis h)
      · cases h5
    | Subscript o j tp =>
      cases o with
      | Name x px =>
        have h5 : (if (noComp e && !slc j) = true then (L.slot x >>= fun i => cB G Φ n L j >>= fun cj => cE G Φ n L e >>= fun y => some (disow (leak n L e) (sPut i cj y.2))) else none) = some c := h
        clear h
        split at h5
        · rename_i hc
          obtain ⟨i, h1, h5⟩ := obind h5
          obtain ⟨cj, h2, h5⟩ := obind h5
          obtain ⟨⟨fr, c'⟩, h3, h5⟩ := obind h5
          cases h5
          have s := slot_ok ok.nm h1
          rw [Bool.and_eq_true] at hc
          exact PS.imp (ps_asg ((snd n).E ok.toEOk e fr c' h3).e (pg_sub (pe_var s.at_ s.vis s.d1 s.d2) ((snd n).B ok.toEOk j cj h2).1 set_list (asg_sub hc.2)) (by unfold swapsWithSole; exact sw_no hc.1)) fun D σ H h => st_put (tSt_dis h)
        · cases h5
      | _ => cases h
    | _ => cases h
  · cases h

theorem ra_all {es : List Expr} (h : es.all notStar = true) {env : Env} {pos : Pos} : (backTo pos (starEach es env)).any (·.1) = false := star_plain h
theorem S_raise (ok : SOk Gr G Φ k L X W) {x : Str} {px cp pos : Pos} {a : Expr} {as : List Expr} {cs : List CE} (hcl : L.calm = true) (hg : L.glob x = true) (hx : G.has x = true) (hst : (a :: as).all notStar = true) (hz : (a :: as).length ≤ 1000) (hcE : cEs G Φ n L (a :: as) = some cs) :
    PS X (.Raise (some (.Call (.Name x px) (a :: as) [] cp)) none pos) (tSt X.K Gr W (sRaise G x cs)) := by
  have g := glob_ok ok.nm hg
  obtain ⟨c0, hc0, hn0⟩ := List.any_eq_true.mp hx
  have hfc : ∃ c, G.cls.find? (fun c => decide (c.name = x)) = some c ∧ c ∈ G.cls ∧ c.name = x := by
    cases hf : G.cls.find? (fun c => decide (c.name = x)) with
    | none => exact absurd hn0 (List.find?_eq_none.mp hf c0 hc0)
    | some c => exact ⟨c, rfl, List.mem_of_find?_eq_some hf, by have := List.find?_some hf; exact of_decide_eq_true this⟩
  obtain ⟨c, hf, hm, rfl⟩ := hfc
  obtain ⟨C, hC, mk⟩ := ok.gl.mkx X rfl rfl rfl rfl rfl ((ok.room hcl).mono (Nat.le_add_left 2 k)) c hm
  have hfl : G.flds c.name = c.flds := by unfold GI.flds; rw [hf]
  rw [List.all_cons, Bool.and_eq_true] at hst
  refine PS.imp (ps_raise (ok.calm hcl) ok.tk (mk g.gl g.d1 ((snd n).Es ok.toEOk (a :: as) cs hcE) (star_cons hst.1) (star_plain hst.2))) fun D σ H h => ?_
  have h2 := st_raise ok.fl (by rw [ok.mg]; exact hC) h
  obtain ⟨F, H₀, M, ρ, re, p⟩ := h2
  refine ⟨F, H₀, M, ρ, re, ?_⟩
  cases hcs : cAll cs ρ with
  | ok ds =>
    rw [hcs] at p
    intro vs H1 s r
    obtain ⟨p1, p2⟩ := p vs H1 s r
    rw [hfl] at p1 p2
    refine ⟨?_, p1, p2⟩
    have hl := r.length
    have h3 : ∀ {as : List Expr} {cs : List CE} {n : Nat}, cEs G Φ n L as = some cs → cs.length = as.length := by
      intro as
      induction as with
      | nil =>
        intro cs n h
        cases n with
        | zero => cases h
        | succ n => cases h; rfl
      | cons e r ih =>
        intro cs n h
        cases n with
        | zero => cases h
        | succ n =>
          have h : (if notStar e = true then (cE G Φ n L e >>= fun y => cEs G Φ n L r >>= fun cs => some (y.2 :: cs)) else none) = some cs := h
          split at h
          · obtain ⟨y, _, h⟩ := obind h
            obtain ⟨cs', h2, h⟩ := obind h
            cases h
            simp [ih h2]
          · cases h
    have h4 : ∀ {cs : List CE} {ds : List PyData}, cAll cs ρ = .ok ds → ds.length = cs.length := by
      intro cs
      induction cs with
      | nil => intro ds h; cases h; rfl
      | cons c cs ih =>
        intro ds h
        have h : ((c ρ).bind fun d => (cAll cs ρ).bind fun ds => .ok (d :: ds)) = .ok ds := h
        cases hc : c ρ with
        | ok d =>
          rw [hc, R.bind_ok] at h
          cases hcs : cAll cs ρ with
          | ok ds' => rw [hcs, R.bind_ok] at h; cases h; simp [ih hcs]
          | exc n es => rw [hcs] at h; cases h
          | bad => rw [hcs] at h; cases h
        | exc n es => rw [hc] at h; cases h
        | bad => rw [hc] at h; cases h
    have e1 := h3 hcE
    have e2 := h4 hcs
    omega
  | exc n ds => rw [hcs] at p; exact p
  | bad => rw [hcs] at p; exact p
theorem S_all (S : SndS G Φ wn n) (ok : SOk Gr G Φ k L X W) (s : Stmt) (c : CS) (h : cS G Φ wn (n + 1) L s = some c) : PS X s (tSt X.K Gr W c) := by
  cases s with
  | Expr e pos => exact S_expr ok h
  | Assign ts e pos => exact S_asg ok h
  | Return o pos =>
    cases o with
    | none => cases h; exact PS.imp ps_retN fun D σ H => st_retN
    | some e =>
      obtain ⟨⟨fr, c'⟩, h1, h⟩ := obind (show (cE G Φ n L e >>= fun y => some (disow (leak n L e) (sRet y.2))) = some c from h)
      cases h
      exact PS.imp (ps_ret ((snd n).E ok.toEOk e fr c' h1).e) fun D σ H h => st_ret (tSt_dis h)
  | If t a b pos =>
    obtain ⟨ct, h1, h⟩ := obind (show (cT G Φ n L t >>= fun ct => cSs G Φ wn n L a >>= fun ca => cSs G Φ wn n L b >>= fun cb => some (sIf ct ca cb)) = some c from h)
    obtain ⟨ca, h2, h⟩ := obind h
    obtain ⟨cb, h3, h⟩ := obind h
    cases h
    exact PS.imp (ps_if ((snd n).T ok.toEOk t ct h1) (S.Ss ok a ca h2) (S.Ss ok b cb h3)) fun D σ H => st_if
  | For tg it body els pos =>
    cases els with
    | cons => cases h
    | nil =>
      have h5 : (if (L.calm && notSet it) = true then (tgOf L tg >>= fun g => cI G Φ n L false it >>= fun ci => cSs G Φ wn n L body >>= fun cb => some (disow (leak n L it) (sFor ci g cb))) else none) = some c := h
      clear h
      split at h5
      · rename_i hc
        rw [Bool.and_eq_true] at hc
        obtain ⟨g, h1, h5⟩ := obind h5
        obtain ⟨ci, h2, h5⟩ := obind h5
        obtain ⟨cb, h3, h5⟩ := obind h5
        cases h5
        exact PS.imp (ps_for (ok.pa hc.1) (ok.calm hc.1) ((snd n).I ok.toEOk false tg it ci h2) (tg_pg ok.nm (ok.calm hc.1) h1) (S.Ss ok body cb h3) (folded_of hc.2)) fun D σ H h => st_for (tSt_dis h)
      · cases h5
  | While t body els pos =>
    cases els with
    | cons => cases h
    | nil =>
      have h5 : (if L.calm = true then (cT G Φ n L t >>= fun ct => cSs G Φ wn n L body >>= fun cb => some (sWhile wn ct cb)) else none) = some c := h
      clear h
      split at h5
      · rename_i hc
        obtain ⟨ct, h1, h5⟩ := obind h5
        obtain ⟨cb, h2, h5⟩ := obind h5
        cases h5
        exact PS.imp (ps_while (ok.pa hc) ((snd n).T ok.toEOk t ct h1) (S.Ss ok body cb h2)) fun D σ H => st_while
      · cases h5
  | Pass pos => cases h; exact PS.imp ps_pass fun D σ H => st_nx
  | Break pos => cases h; exact PS.imp ps_break fun D σ H => st_bk
  | Continue pos => cases h; exact PS.imp ps_continue fun D σ H => st_ct
  | Raise e z pos =>
    cases e with
    | none => cases h
    | some e =>
      cases z with
      | some z => cases e <;> first | (cases h; done) | (rename_i f as ks cp; cases f <;> first | (cases h; done) | (cases as <;> cases ks <;> first | (cases h; done)))
      | none =>
        cases e with
        | Call f as ks cp =>
          cases f with
          | Name x px =>
            cases as with
            | nil => cases h
            | cons a as =>
              cases ks with
              | cons => cases h
              | nil =>
                have h5 : (if (L.calm && L.glob x && G.has x && (a :: as).all notStar && decide ((a :: as).length ≤ 1000)) = true then (cEs G Φ n L (a :: as) >>= fun cs => some (disow (leaks n L (a :: as)) (sRaise G x cs))) else none) = some c := h
                clear h
                split at h5
                · rename_i hc
                  rw [Bool.and_eq_true, Bool.and_eq_true, Bool.and_eq_true, Bool.and_eq_true, decide_eq_true_iff] at hc
                  obtain ⟨⟨⟨⟨c1, c2⟩, c3⟩, c4⟩, c5⟩ := hc
                  obtain ⟨cs, h1, h5⟩ := obind h5
                  cases h5
                  exact PS.imp (S_raise ok c1 c2 c3 c4 c5 h1) fun D σ H => tSt_dis
                · cases h5
          | _ => cases h
        | _ => cases h
  | Try body hs els fin pos =>
    cases els with
    | cons => cases hs <;> cases h
    | nil =>
      cases fin with
      | cons => cases hs <;> cases h
      | nil =>
        cases hs with
        | nil => cases h
        | cons h0 hs =>
          have h5 : (if L.calm = true then (cSs G Φ wn n L body >>= fun cb => cHs G Φ wn n L (h0 :: hs) >>= fun hc => some (sTry G cb hc)) else none) = some c := h
          clear h
          split at h5
          · rename_i hcl
            obtain ⟨cb, h1, h5⟩ := obind h5
            obtain ⟨hc, h2, h5⟩ := obind h5
            cases h5
            have hx := ok.sxc hcl
            obtain ⟨a1, a2⟩ := S.Hs ok hx (h0 :: hs) hc h2
            exact PS.imp (ps_hds (tb := fun W => tSt X.K Gr W cb) ok.nm.nodup ok.st ok.fr ok.tk (fun W' pl xe tk pa => S.Ss (ok.tr hx tk pa) body cb h1) a1) fun D σ H => st_try hx ok.mg ok.gl.cls a2
          · cases h5
  | _ => cases h
theorem names_of (ok : SOk Gr G Φ k L X W) {t : Str} (hg : L.glob t = true) (hc : ClsOf G X.mg t (cvOf G X.mg t)) : Names X t (cvOf G X.mg t) := by
  have g := glob_ok ok.nm hg
  refine ⟨g.gl, g.d1, ?_⟩
  rcases hc with ⟨_, h⟩ | ⟨_, h1, h2⟩
  · exact .inl h
  · exact .inr ⟨h1, h2, g.nn⟩
def hdSlot (L : Lc) : Option Str → Option (Option Nat)
  | none => some none
  | some x => if L.nm.lookup x = some .local then (L.lslot x).map some else none
theorem hs_all (S : SndS G Φ wn n) (ok : SOk Gr G Φ k L X W) (hx : Gr.sx = none) (hs : List ExceptHandler) (hc : List HdC) (h : cHs G Φ wn (n + 1) L hs = some hc) :
    Hds X hs (hc.map (hdOf X.K Gr (cvOf G X.mg))) ∧ ∀ h ∈ hc, ClsOf G X.mg h.t (cvOf G X.mg h.t) := by
  cases hs with
  | nil => cases h; exact ⟨.nil, fun _ z => by cases z⟩
  | cons h0 r =>
    cases h0 with
    | ExceptHandler ty o su pb =>
      cases ty with
      | none => cases h
      | some te =>
        cases te with
        | Name t pa =>
          cases su with
          | nil => cases h
          | cons s0 ss =>
            have h5 : (if (L.glob t && G.clsName t) = true then (hdSlot L o >>= fun i => cSs G Φ wn n { L with calm := false, en := o } (s0 :: ss) >>= fun su => cHs G Φ wn n L r >>= fun l => some ((⟨t, i, su⟩ : HdC) :: l)) else none) = some hc := h
            clear h
            split at h5
            · rename_i hg
              rw [Bool.and_eq_true] at hg
              obtain ⟨i, h1, h5⟩ := obind h5
              obtain ⟨su, h2, h5⟩ := obind h5
              obtain ⟨l, h3, h5⟩ := obind h5
              cases h5
              obtain ⟨a1, a2⟩ := S.Hs ok hx r l h3
              have hcv : ClsOf G X.mg t (cvOf G X.mg t) := by
                obtain ⟨cv, hcv, _⟩ := ok.gl.nms t hg.2
                exact cvOf_ok ⟨cv, hcv⟩
              refine ⟨.cons (z := hdOf X.K Gr (cvOf G X.mg) ⟨t, i, su⟩) (names_of ok hg.1 hcv) ?_ ?_ a1, fun z hz => ?_⟩
              · cases o with
                | none => cases h1; exact .inl ⟨rfl, rfl⟩
                | some x =>
                  have h1 : (if L.nm.lookup x = some .local then (L.lslot x).map some else none) = some i := h1
                  split at h1
                  · rename_i hl
                    obtain ⟨j, h6, rfl⟩ := omap h1
                    exact .inr ⟨x, j, rfl, rfl, (lslot_ok ok.nm h6).at_, ok.nm.loc x hl⟩
                  · cases h1
              · intro a oe cls d pl hz hf
                cases i with
                | none => exact S.Ss (ok.suite0 hx) (s0 :: ss) su h2
                | some i =>
                  refine ⟨fun pins s σ H D I hw => ?_⟩
                  obtain ⟨C, rfl, hw⟩ := hw
                  exact (S.Ss (ok.suite hz hf) (s0 :: ss) su h2).run pins s σ H D I hw
              · rcases List.mem_cons.mp hz with rfl | hz
                · exact hcv
                · exact a2 z hz
            · cases h5
        | _ => cases h
theorem sndSS (S : SndS G Φ wn n) : SndS G Φ wn (n + 1) where
  S := fun ok s c h => S_all S ok s c h
  Ss := fun ok ss c h => by
    cases ss with
    | nil => cases h; exact PSs.imp pss_nil fun D σ H => st_nx
    | cons s r =>
      obtain ⟨c1, h1, h⟩ := obind (show (cS G Φ wn n _ s >>= fun c => cSs G Φ wn n _ r >>= fun d => some (sSeq c d)) = some c from h)
      obtain ⟨d, h2, h⟩ := obind h
      cases h
      exact PSs.imp (pss_cons (S.S ok s c1 h1) (S.Ss ok r d h2)) fun D σ H => st_seq
  Hs := fun ok hx hs hc h => hs_all S ok hx hs hc h
end
theorem sndT {G : GI} {Φ : Ph} {wn : Nat} : ∀ n, SndS G Φ wn n
  | 0 => { S := fun ok s c h => (by cases h), Ss := fun ok ss c h => (by cases h), Hs := fun ok hx hs hc h => (by cases h) }
  | n + 1 => sndSS (sndT n)
end Pv


/-! defs: their promises -/
namespace Pv
open PySem PySem.Spec L2
open PyProof.Rows hiding St

/-! ### plain parameters -/
def plainP (p : Arguments) (ps : List Str) : Bool := p.posonlyargs.isEmpty && p.vararg.isNone && p.kwonlyargs.isEmpty && p.kwarg.isNone && decide (p.args.map (·.arg) = ps) && decide ps.Nodup
theorem lookup_zip : ∀ {ps : List Str} {us : List Value} {i : Nat} {x : Str} {u : Value}, ps.Nodup → ps[i]? = some x → us[i]? = some u → (ps.zip us).lookup x = some u
  | [], _, _, _, _, _, h, _ => by simp at h
  | _ :: _, [], _, _, _, _, _, h => by simp at h
  | p :: ps, v :: us, 0, x, u, _, h1, h2 => by
    simp at h1 h2; subst h1 h2
    simp [List.lookup]
  | p :: ps, v :: us, i + 1, x, u, nd, h1, h2 => by
    have h1 : ps[i]? = some x := by simpa using h1
    have hne : x ≠ p := fun z => (List.nodup_cons.mp nd).1 (z ▸ List.mem_of_getElem? h1)
    have e : (x == p) = false := by simpa using hne
    rw [List.zip_cons_cons, List.lookup_cons, e]
    exact lookup_zip (List.nodup_cons.mp nd).2 h1 (by simpa using h2)
theorem lookup_all {ps : List Str} {us : List Value} (nd : ps.Nodup) (hl : us.length = ps.length) : ∀ x ∈ ps, ∃ u, (ps.zip us).lookup x = some u := fun x hx => by
  obtain ⟨i, hi⟩ := List.getElem?_of_mem hx
  obtain ⟨hlt, _⟩ := List.getElem?_eq_some_iff.mp hi
  exact ⟨us[i], lookup_zip nd hi (by simp [hl, hlt])⟩
theorem fm_zip : ∀ {ps : List Str} {us : List Value} {l : List (Str × Value)}, us.length = ps.length → (∀ (i : Nat) (x : Str) (u : Value), ps[i]? = some x → us[i]? = some u → l.lookup x = some u) → (ps.filterMap fun n => (l.lookup n).map (n, ·)) = ps.zip us
  | [], us, l, hl, _ => by simp
  | p :: ps, [], l, hl, _ => by simp at hl
  | p :: ps, v :: us, l, hl, h => by
    have e := h 0 p v rfl rfl
    rw [List.filterMap_cons, e, List.zip_cons_cons]
    show (p, v) :: _ = _
    rw [fm_zip (by simpa using hl) fun i x u h1 h2 => h (i + 1) x u (by simpa using h1) (by simpa using h2)]
theorem bind_plain {name qual : Str} {params : Arguments} {body : List Stmt} {scope : Scope} {kV doc pm cdv ct : Value} {an : Option Addr} {ps : List Str} (hp : plainP params ps = true) {us : List Value} (hl : us.length = ps.length) :
    bindArgs (PySem.W.fnOf name qual params body scope .none kV doc pm an cdv ct) ⟨us, []⟩ = pure (ps.zip us) := by
  unfold plainP at hp
  simp only [Bool.and_eq_true, decide_eq_true_iff, List.isEmpty_iff, Option.isNone_iff_eq_none] at hp
  obtain ⟨⟨⟨⟨⟨h1, h2⟩, h3⟩, h4⟩, h5⟩, h6⟩ := hp
  obtain ⟨po, ar, va, ko, kd, kw, df⟩ := params
  dsimp only at h1 h2 h3 h4 h5
  subst h1 h2 h3 h4 h5
  have hm : ((ar.map (·.arg)).filter fun n => (((ar.map (·.arg)).zip us).lookup n).isNone) = [] := by
    rw [List.filter_eq_nil_iff]
    intro x hx
    obtain ⟨u, e⟩ := lookup_all h6 hl x hx
    rw [e]; simp
  have hf := fm_zip (l := (ar.map (·.arg)).zip us) hl fun i x u a b => lookup_zip h6 a b
  unfold bindArgs
  simp only [PySem.W.fnOf, List.map_nil, List.nil_append, List.append_nil]
  have hz : ¬ (us.length > (ar.map (·.arg)).length) := by omega
  have hsq : seqItems? Value.none = (pure none : Sem (Option (Array Value))) := rfl
  simp only [hsq, pure_bind, Option.getD_none, List.drop_nil, List.length_nil, Nat.sub_zero, List.take_length, List.drop_length, List.zip_nil_right, List.forIn_nil, hm]
  rw [if_neg (by simpa using hz)]
  simp only [List.isEmpty_nil, Bool.not_true, if_neg Bool.false_ne_true]
  first
    | (rw [hf]; done)
    | (simp only [hf]; done)
    | (show (pure _ : Sem (List (Str × Value))) = _; rw [hf]; done)
    | skip

/-! ### what a def gives, by the depth of calls -/
def lcF (f : FnI) : Lc := { N := f.N, nm := f.scope.names, calm := true, en := none }
def startE (N : List Str) (ds : List PyData) : En := ds.map (fun d => .dat d false) ++ List.replicate (N.length - ds.length) .no
def endC : Fw → R PyData
  | .rt d => .ok d
  | .nx _ => .ok .none
  | .exc n es _ => .exc n es
  | _ => .bad
def runC (c : CS) (N ps : List Str) (ds : List PyData) : R PyData := if ds.length = ps.length then endC (c (startE N ds)) else .bad
def fnC (G : GI) (wn fu : Nat) (Φ : Ph) (f : FnI) (ds : List PyData) : R PyData := match cSs G Φ wn fu (lcF f) f.body with
  | some c => runC c f.N f.ps ds
  | none => .bad
def PhN (G : GI) (wn fu : Nat) : Nat → Ph
  | 0 => fun _ _ => .bad
  | k + 1 => fun i ds => match G.fns[i]? with
    | some f => fnC G wn fu (PhN G wn fu k) f ds
    | none => .bad
section
variable {P : Program} {w : World} {K : PySem.W.Frag} {mg : Str → Option Value} {base : Heap} {Gr : Gx} {G : GI}
theorem RE.start {F : Addr → Prop} {H : Hp} {N : List Str} {ds : List PyData} {vs : List V} (t : Trk F H) (r : Rps K F H ds vs) : RE K Gr F H (fun _ => False) (startE N ds) (L2.start N vs) H := by
  have hl := r.length
  have at_ : ∀ {i : Nat} {s : Sl}, (startE N ds)[i]? = some s → (∃ d, ds[i]? = some d ∧ s = .dat d false) ∨ s = .no := fun {i s} e => by
    unfold startE at e
    by_cases hi : i < ds.length
    · rw [List.getElem?_append_left (by simpa using hi), List.getElem?_map] at e
      cases hd : ds[i]? with
      | none => rw [hd] at e; cases e
      | some d => rw [hd] at e; cases e; exact .inl ⟨d, rfl, rfl⟩
    · rw [List.getElem?_append_right (by simpa using hi), List.getElem?_replicate] at e
      split at e
      · cases e; exact .inr rfl
      · cases e
  have noOwn : ∀ a, ¬ Own (startE N ds) (L2.start N vs) a := fun a ⟨i, d, e, _⟩ => by
    rcases at_ e with ⟨_, _, z⟩ | z
    · cases z
    · cases z
  have hF : ∀ a, FF F (startE N ds) (L2.start N vs) a → F a := fun a z => z.elim id fun z => absurd z (noOwn a)
  refine ⟨by simp [startE, L2.start, hl], fun i d e => ?_, fun i d e => ?_, fun i j d d' a e => ?_, fun a o h _ => h, fun a z => absurd z (noOwn a), fun a z => ⟨t a z, fun c => c⟩, fun i n es e => ?_⟩
  · rcases at_ e with ⟨d', h1, z⟩ | z
    · cases z
      obtain ⟨v, e1, rv⟩ := r.get h1
      refine ⟨v, ?_, rv.less hF⟩
      unfold L2.start
      obtain ⟨hlt, _⟩ := List.getElem?_eq_some_iff.mp e1
      rw [List.getElem?_append_left (by simpa using hlt), List.getElem?_map, e1]
      rfl
    · cases z
  · rcases at_ e with ⟨_, _, z⟩ | z
    · cases z
    · cases z
  · rcases at_ e with ⟨_, _, z⟩ | z
    · cases z
    · cases z
  · rcases at_ e with ⟨_, _, z⟩ | z
    · cases z
    · cases z
theorem frm_same {H H' : Hp} (f : Frm H (fun _ => False) H') : Same H H' := fun a o h => f a o h fun z => z
theorem fn_sound {wn fu k i : Nat} {f : FnI} {a : Addr} {fd : FuncData} (F : FunD K f.name f.name f.params f.body f.scope [] [] a fd) (S : FnScope f.N f.ps f.scope) (hi : G.fns[i]? = some f) (g : GOk Gr G (PhN G wn fu k) k P w K mg base) (hx : Gr.sx = none) (hfl : Gr.flds = G.flds) (hmg : Gr.mg = mg) :
    FnOk P w K mg base (L2.CX P w) (k + 1 + 2) a fd f.ps (spF K Gr (PhN G wn fu (k + 1)) f.ps.length i) := by
  refine F.ok (k := k + 2) S (fun vs H Q E h => h.1) fun cdv A outer s H vs Q E hr hsp => ?_
  obtain ⟨hl, Fr, ds, tr, rs, q⟩ := hsp
  have hq : PhN G wn fu (k + 1) i ds = fnC G wn fu (PhN G wn fu k) f ds := by
    show (match G.fns[i]? with | some f => fnC G wn fu (PhN G wn fu k) f ds | none => .bad) = _
    rw [hi]
  rw [hq] at q
  unfold fnC at q
  cases hc : cSs G (PhN G wn fu k) wn fu (lcF f) f.body with
  | none => rw [hc] at q; exact False.elim q
  | some c =>
    rw [hc] at q
    dsimp only at q
    unfold runC at q
    rw [if_pos (by rw [rs.length, hl])] at q
    have ok : SOk Gr G (PhN G wn fu k) k (lcF f) (cxOf (L2.CX P w) P w K mg base f.N f.name f.scope a cdv A outer s H E) (fun cls d _ H => E cls d H) := {
      calm := fun _ => rfl
      room := fun _ => hr
      un := by have := hr.un; show (A.deeper _).units + 200 < cLine; omega
      tk := takes_of rfl rfl rfl rfl
      nm := ⟨rfl, S.nd, fun x h => h, fun x h => h, fun x h => .inr h, fun x h => h, fun x h => rfl⟩
      gl := g
      fl := hfl
      mg := hmg
      sxc := fun _ => hx
      sx := fun a C od e => by rw [hx] at e; cases e
      kd := S.kind
      pa := fun _ => passes_of rfl
      st := rfl
      fr := rfl }
    refine ⟨_, (sndT fu).Ss ok f.body c hc, Fr, H, fun _ => False, startE f.N ds, RE.start tr rs, ?_⟩
    cases hr2 : c (startE f.N ds) with
    | nx ρ' => rw [hr2] at q; exact fun σ' H' r => q .non H' (frm_same r.frm) rfl
    | rt d => rw [hr2] at q; exact fun v H' fm r => q v H' (frm_same fm) r
    | bk ρ' => rw [hr2] at q; exact False.elim q
    | ct ρ' => rw [hr2] at q; exact False.elim q
    | exc n es ρ' => rw [hr2] at q; exact fun cls od σ' H' r x => q cls od H' (frm_same r.frm) (x.less fun a z => .inl z)
    | bad => rw [hr2] at q; exact False.elim q
/-- what the head tells -/
structure GSt (Gr : Gx) (G : GI) (P : Program) (w : World) (K : PySem.W.Frag) (mg : Str → Option Value) (base : Heap) : Prop where
  bi : ∀ x ∈ biNames, mg x = none
  fns : ∀ (i : Nat) (f : FnI), G.fns[i]? = some f → ∃ (a : Addr) (fd : FuncData), mg f.name = some (.ref a) ∧ PySem.W.keepIn K (.ref a) = true ∧ FunD K f.name f.name f.params f.body f.scope [] [] a fd ∧ plainP f.params f.ps = true ∧ FnScope f.N f.ps f.scope
  cls : ∀ n C, G.has n = true → mg n = some (.ref C) → ClOk G K mg n C
  nms : ∀ t, G.clsName t = true → ∃ cv, ClsOf G mg t cv ∧ ((∃ a, cv = .ref a) ∨ ∃ n, cv = .type n)
  mkx : ∀ (X : Cx), X.prog = P → X.w = w → X.K = K → X.mg = mg → X.base = base → Room 2 X.A → ∀ c ∈ G.cls, ∃ C, mg c.name = some (.ref C) ∧ (Gl X c.name → (c.name == ("__debug__" : Str)) = false →
    ∀ {e : Expr} {es : List Expr} {ta : TA} {p pos : Pos}, PA X (e :: es) ta → starEach (e :: es) X.env = (false, eval e X.env) :: starEach es X.env → (backTo pos (starEach es X.env)).any (·.1) = false →
      PMk X (.Call (.Name c.name p) (e :: es) [] pos) (fun σ H Q => ta σ H fun vs H1 => vs.length ≤ 1000 ∧ (c.flds = [] → Q (.ref C) none H1) ∧ (c.flds ≠ [] → vs.length = c.flds.length ∧ ∀ dx, H1 dx = none → Q (.ref C) (some dx) (upd H1 dx (.xd (c.flds.zip vs.reverse))))))
  cons : ∀ x d, G.cons.lookup x = some d → ∃ u v, mg x = some u ∧ RelV v u ∧ ∀ F H, Rp K F H d v
theorem gok (st : GSt Gr G P w K mg base) (hx : Gr.sx = none) (hfl : Gr.flds = G.flds) (hmg : Gr.mg = mg) {wn fu : Nat} : ∀ k, GOk Gr G (PhN G wn fu k) k P w K mg base
  | 0 => ⟨st.bi, fun i f hi => by
      obtain ⟨a, fd, h1, h2, F, h3, S⟩ := st.fns i f hi
      refine ⟨a, fd, h1, h2, F.bindsN fun _ _ _ _ _ _ us hl => bind_plain h3 hl, fun vs H Q E h => h.1, fun A outer s H args us vs Q E hr he hb r h => ?_⟩
      obtain ⟨_, _, _, _, _, z⟩ := h
      exact False.elim z, st.cls, st.nms, st.mkx, st.cons⟩
  | k + 1 => ⟨st.bi, fun i f hi => by
      obtain ⟨a, fd, h1, h2, F, h3, S⟩ := st.fns i f hi
      exact ⟨a, fd, h1, h2, F.bindsN fun _ _ _ _ _ _ us hl => bind_plain h3 hl, fn_sound F S hi (gok st hx hfl hmg k) hx hfl hmg⟩, st.cls, st.nms, st.mkx, st.cons⟩
end
end Pv


/-! own exception classes over ValueError, in a line of classes, whose __init__ says super().__init__(text) and stores its arguments -/
namespace Pv
open PySem PySem.Spec L2
open PyProof.Rows hiding St

/-- the instance's class C, the class D that the __init__ is written in -/
structure IniC (K : PySem.W.Frag) (D C : Addr) (fs : List Str) : Prop where
  ox : OexC K C
  no : ∀ f ∈ fs, PySem.W.findIn K (.ref C) f = some none
  mro : PySem.W.mroIn K C (.ref D) = some true
  sup : PySem.W.ks_superIn K C D "__init__" = some (some (.builtin "ValueError.__init__"))
  sub : PySem.W.subIn K (.ref C) (.type "ValueError") = some true
  opq : PySem.W.nsIn K cStatics "thirdparty.any" = some none
/-- where a super() stands -/
structure SupAt (X : Cx) (f cda cc D : Addr) (sf : Str) : Prop where
  lk : ∃ (oc : Value) (od : Option Addr) (osl : Array (Option Value)) (fd : FuncData) (ar : Arg), X.K.lookup f = some ⟨oc, od, .func fd, osl⟩ ∧ (fd.params.posonlyargs ++ fd.params.args).head? = some ar ∧ ar.arg = sf
  fu : X.env.func = some f
  co : X.env.code = .ref cda
  file : ∃ (c1 : Value) (d1 : Option Addr) (vs : Array Value) (s1 : Array (Option Value)) (file : Str) (tf : Tok), X.K.lookup cda = some ⟨c1, d1, .fields vs, s1⟩ ∧ vs[2]? = some (.str file tf) ∧ ((X.prog.main.file : Str) == file) = true
  cell : ∃ (c1 : Value) (d1 : Option Addr) (s1 : Array (Option Value)), X.K.lookup cc = some ⟨c1, d1, .cell (some (.ref D)), s1⟩
  cls : ∃ cd, PySem.W.clsIn X.K D = some cd
  at_ : X.env.cells.lookup ("__class__" : Str) = some cc
  ks : X.env.kindOf "super" = some .globalImplicit
  kc : X.env.kindOf "__class__" = some .free
  kself : X.env.kindOf sf = some .local
  n0 : X.N[0]? = some sf
  top : (X.prog.main.scope.names.lookup ("super" : Str)).isSome = false
  mg : X.mg "super" = none
section
variable {X : Cx} {f cda cc D : Addr} {sf : Str}
theorem boot_super : bootBuiltins "super" = some (.type "super") := by decide +kernel
theorem Inv.push {pins : List (Addr × Obj)} {σ : St} {H : Hp} {h h' : Heap} {g : Array GenState} {d : Drawn} {t t' : Nat} {os : OsState} (I : Inv X pins σ H ⟨h, g, d, t, os⟩) (k : ∀ b o, h.get? b = some o → h'.get? b = some o) : Inv X pins σ H ⟨h', g, d, t', os⟩ := I.kept (t' := t') k
/-- how the line's call is evaluated (its places told) -/
def SupEv (p0 p1 p2 p3 p4 : Pos) (z : Str) (j : Nat) : Prop := ∃ pl : Sem Bool, ∀ env : Env, eval (.Call (.Attribute (.Call (.Name "super" p0) [] [] p1) "__init__" p2) [.Constant (.str z) j p3] [] p4) env = (do
  let ov ← attributeBase (.Call (.Name "super" p0) [] [] p1) "__init__" env (eval (.Call (.Name "super" p0) [] [] p1) env)
  standAt p2.atName
  let (f, first) ← holding [ov] (getMethod ov "__init__" pl)
  callWith p4 f first (backTo p4 (starEach [.Constant (.str z) j p3] env)) [])
/-- super().__init__('text') -/
theorem sup_line (T : SupAt X f cda cc D sf) {body : List Stmt} {p0 p1 p2 p3 p4 p5 : Pos} {z : Str} {j : Nat} {σ : St} {H : Hp} {s : Shared} {a C : Addr} {fs : List Str} {E : Value → Shared → Prop} {Q : Flow → Shared → Prop} (ev : SupEv p0 p1 p2 p3 p4 z j) (c : IniC X.K D C fs) (I : Inv X [] σ H s)
    (hσ : σ[0]? = some (some (.ref a))) (ha : H a = some (exo a C none)) (hQ : ∀ s', Inv X [] σ H s' → Q .next s') :
    _root_.PySem.wpAt (model X.prog X.w) X.A (.func body X.env) (exec (.Expr (.Call (.Attribute (.Call (.Name "super" p0) [] [] p1) "__init__" p2) [.Constant (.str z) j p3] [] p4) p5) X.env) Q E s := by
  have hint : interactive X.env = false := by
    unfold interactive
    rw [I.ok.kind]
    rfl
  refine PySem.ks_wpAt_Expr_any ?_ hint
  obtain ⟨oc, od, osl, fd, ar, hf, hp, har⟩ := T.lk
  obtain ⟨c1, d1, vs, s1, file, tf, hcode, hvs, hfile⟩ := T.file
  obtain ⟨c2, d2, s2, hcell⟩ := T.cell
  obtain ⟨cdD, hD⟩ := T.cls
  obtain ⟨t0, hx⟩ := exo_at I.hok ha
  obtain ⟨mm, hn, hl⟩ := I.loc
  obtain ⟨u, ru, lu⟩ := hl 0 sf (.ref a) T.n0 hσ (.inl T.kself)
  have hu : mm sf = some (.ref a) := by
    cases ru
    rcases lu with ⟨_, e⟩ | ⟨e, _⟩
    · exact e
    · rw [T.kself] at e; rcases e with e | e <;> cases e
  obtain ⟨hh, g, d, tk, os⟩ := s
  have KX := I.kIn
  obtain ⟨oD, hD1, hD2⟩ : ∃ oD, hh.get? D = some oD ∧ oD.data = .cls cdD := by
    unfold PySem.W.clsIn at hD
    split at hD
    · rename_i e1 e2 e3 e4 ho
      cases hD
      exact ⟨_, KX _ _ ho, rfl⟩
    · cases hD
  obtain ⟨mb, hb1, hb2⟩ := I.mod.blt
  have IA : PySem.W.InstAt hh a { cls := .ref C, dict := none, data := .fields #[.ref t0, .none, .none, .none, .bool false, .none] } C none := ⟨hx, rfl, rfl, trivial⟩
  obtain ⟨pl, ev⟩ := ev
  refine PySem.ks_wpAt_MethodCall (PySem.ks_wpAt_super_base T.ks T.kc (by decide) T.fu (KX _ _ hf) rfl hp T.co (KX _ _ hcode) rfl hvs hfile T.top ?_) (ev X.env)
  refine PySem.W.ks_loadName_global I.ok.kind T.ks (Calls.loadGlobal_builtin (by rw [I.ok.glob]; exact I.mod.glob.keeps I.bk) T.mg (by rw [I.ok.blt]; exact hb1.keeps I.bk) ((hb2 "super" (by decide)).trans boot_super) ⟨rfl, ?_⟩)
  refine wpAny_loadName_free I.ok.kind T.kc T.at_ ⟨_, KX _ _ hcell, rfl⟩ ?_
  rw [har]
  refine wpAny_loadName_local I.ok.kind T.kself hn hu ?_
  refine PySem.ks_wpAny_isType_cls hD1 hD2 ⟨rfl, ?_⟩
  refine PySem.ks_wpAny_call_super hD1 hD2 hx rfl (fun c e => by cases e) (PySem.W.looks_mroIn KX c.mro) (fun h1 e1 k1 => ?_)
  have I1 : Inv X [] σ H ⟨h1, g, d, tk, os⟩ := Inv.push I k1
  have KX1 := I1.kIn
  cases hc : PySem.W.clsIn X.K C with
  | none =>
    have := c.sup
    unfold PySem.W.ks_superIn at this
    rw [hc] at this; cases this
  | some cd =>
    have hsup := c.sup
    unfold PySem.W.ks_superIn at hsup
    rw [hc] at hsup
    have IA1 : PySem.W.InstAt h1 a { cls := .ref C, dict := none, data := .fields #[.ref t0, .none, .none, .none, .bool false, .none] } C none := ⟨k1 _ _ hx, rfl, rfl, trivial⟩
    refine PySem.W.kxs_getMethod PySem.W.kxs_ValueError e1 (PySem.W.looks_opaque KX1 c.opq) (l₀ := cd.mro) (fun A Q E s k q => wpAny_bind ((PySem.W.looks_clsIn KX1 hc) A _ E s k (wpAny_pure q))) rfl KX1 hsup (IA1.type.andThen (PySem.W.looks_subIn KX1 c.sub)) (PySem.W.ks_ne KX1 IA1 hc) (by decide) ?_
    have I2 : Inv X [] σ H ⟨h1.push (PySem.W.kxs_mw "ValueError.__init__" a), g, d, tk + 1, os⟩ := Inv.push I1 fun b o e => Heap.get?_push_of_some _ e
    have hu2 : (h1.push (PySem.W.kxs_mw "ValueError.__init__" a)).get? h1.objs.size = some (PySem.W.kxs_mw "ValueError.__init__" a) := Heap.get?_push_at rfl rfl
    refine PySem.W.kxs_callWith (i := "ValueError.__init__") (x := a) rfl ?_
    refine Calls.evalArgs_plain ?_
    show wpAny _ _ (spliced ((false, eval (.Constant (.str z) j p3) X.env) :: backTo p4 (starEach [] X.env))) _ _ _
    refine Calls.spliced_cons (Calls.Constant_str (Calls.spliced_nil ⟨hu2, ?_⟩))
    have I3 : Inv X [] σ H ⟨h1.push (PySem.W.kxs_mw "ValueError.__init__" a), g, d, tk + 1 + 1, os⟩ := Inv.push I2 fun _ _ e => e
    have hx3 : (h1.push (PySem.W.kxs_mw "ValueError.__init__" a)).get? a = some ({ cls := .ref C, dict := none, data := .fields #[.ref t0, .none, .none, .none, .bool false, .none] } : Obj) := Heap.get?_push_of_some _ (k1 _ _ hx)
    obtain ⟨nm, q, N, bs, bm, sn, sub, ab, col, dd, x0, x1, x2, x3, x5, hC, hbm⟩ := c.ox.cls
    have hCh := I3.kIn _ _ hC
    refine wpAny_call (codeAny_of_tree ?_)
    show wpAny _ X.A.in1 (callAny (.ref h1.objs.size) ⟨[.str z (tk + 1)], []⟩) _ _ _
    simp only [callAny]
    refine wpAny_bind (wpAny_load hu2 ?_)
    have y1 : (Value.type "method-wrapper" == Value.type "method" || Value.type "method-wrapper" == Value.type "builtin_function_or_method" || Value.type "method-wrapper" == Value.type "method-wrapper") = true := by decide
    simp only [PySem.W.kxs_mw, y1, if_true]
    refine PySem.W.KFB.if_so (by decide) ?_
    refine wpAny_bind (PySem.W.check_bound_init F.excBase_ValueError.toExcCallFacts hCh hx3 rfl ?_)
    refine wpAny_bind (wpAny_pure (wpAny_pure ?_))
    refine ⟨plainId_quiet F.excBase_ValueError.init.plain _, codeAny_builtin F.excBase_ValueError.initEntry ?_⟩
    refine PySem.W.exc_init_tree (cls := .ref C) (t0 := t0) (dv := none) (c2 := .none) (c3 := .none) (b4 := .bool false) hx3 (by show 1 ≤ sizeLine; rw [sizeLine_eq]; omega) fun h' kk he' ht' => ?_
    have J := I3.write (t' := tk + 1 + 1) (x := a) (e := a) (o := exo a C none) (by rw [ha]; exact True.intro) (.inl rfl) kk ⟨_, he'⟩ (exo_ok he')
    have eu : upd H a (exo a C none) = H := by
      funext b
      by_cases hb : b = a
      · rw [hb, upd_same, ha]
      · rw [upd_ne hb]
    rw [eu] at J
    exact hQ _ J
end
end Pv


namespace Pv
open PySem PySem.Spec L2
open PyProof.Rows hiding St

def envI (qual : Str) (scope : Scope) (L f : Addr) (cdv : Value) (cc : Addr) : Env :=
  { scope := scope, locals := L, globals := mainGlobals, cells := [("__class__", cc)], qual := qual ++ ".<locals>.", func := some f, code := cdv, frame := some L, builtins := builtinsNs }
def cxI (CX : CXT) (P : Program) (w : World) (K : PySem.W.Frag) (mg : Str → Option Value) (base : Heap) (N : List Str) (qual : Str) (scope : Scope) (f : Addr) (cdv : Value) (cc : Addr) (A : Around) (outer : List Env) (s : Shared) (H : Hp) (E : XK) : Cx where
  prog := P
  w := w
  K := K
  mg := mg
  base := base
  A := A.deeper (envI qual scope s.heap.objs.size f cdv cc)
  N := N
  s_0 := s
  H_0 := H
  env := envI qual scope s.heap.objs.size f cdv cc
  outer := outer
  stack := envI qual scope s.heap.objs.size f cdv cc :: outer
  ex := []
  calm := true
  fn := fun _ => false
  pn := []
  xe := fun e s' => wpAny (model P w) (A.deeper (envI qual scope s.heap.objs.size f cdv cc)) (leaving (envI qual scope s.heap.objs.size f cdv cc) e) (fun _ s'' => CR CX outer P w H s (fun _ _ => False) E (.error e) s'') (fun e' s'' => CR CX outer P w H s (fun _ _ => False) E (.error e') s'') s'
theorem lookup_mem {x : Str} {u : Value} : ∀ {l : List (Str × Value)}, (l.map (·.1)).Nodup → (x, u) ∈ l → l.lookup x = some u
  | [], _, h => by cases h
  | (y, v) :: l, nd, h => by
    rw [List.lookup_cons]
    rcases List.mem_cons.mp h with h8 | h9
    · cases h8; simp
    · have hne : x ≠ y := fun z => by
        subst z
        exact (List.nodup_cons.mp nd).1 (List.mem_map.mpr ⟨(x, u), h9, rfl⟩)
      have e : (x == y) = false := by simpa using hne
      rw [e]
      exact lookup_mem (List.nodup_cons.mp nd).2 h9
theorem zip_fst {ps : List Str} {us : List Value} (h : us.length = ps.length) : (ps.zip us).map (·.1) = ps := by
  rw [List.map_fst_zip]; omega
theorem lookup_rev {ps : List Str} {us : List Value} {i : Nat} {x : Str} {u : Value} (nd : ps.Nodup) (hl : us.length = ps.length) (h1 : ps[i]? = some x) (h2 : us[i]? = some u) : (ps.zip us).reverse.lookup x = some u := by
  apply lookup_mem
  · rw [List.map_reverse, zip_fst hl]
    unfold List.Nodup at nd ⊢
    rw [List.pairwise_reverse]
    exact nd.imp fun h => Ne.symm h
  · rw [List.mem_reverse]
    have : (ps.zip us)[i]? = some (x, u) := by rw [List.getElem?_zip_eq_some]; exact ⟨h1, h2⟩
    exact List.mem_of_getElem? this
/-- the scope of such an __init__ -/
structure IScope (N : List Str) (sc : Scope) : Prop where
  kind : sc.kind = .function
  co : sc.isCoroutine = false
  gen : sc.isGenerator = false
  nd : N.Nodup
  par : ∀ x ∈ N, sc.names.lookup x = some .local
  free : ∀ y ∈ sc.names, y.2 = .free → y.1 = ("__class__" : Str)
  nocell : ∀ y ∈ sc.names, y.2 ≠ .cell
section
variable {CX : CXT} {P : Program} {w : World} {K : PySem.W.Frag} {mg : Str → Option Value} {base : Heap} {N : List Str} {qual : Str} {scope : Scope} {f cc D : Addr} {cdv : Value} {A : Around} {outer : List Env} {s : Shared} {H : Hp} {E : XK} {us : List Value} {vs : List V}
theorem inv_init (S : IScope N scope) (hd : A.handled = none) (e0 : Env0 P w K mg base A outer s H) (hl : vs.length = N.length) (r : Vals vs us) {cl : Value} {cd : Option Addr} {sl : Array (Option Value)} (hcell : K.lookup cc = some ⟨cl, cd, .cell (some (.ref D)), sl⟩) {h1 : Heap} {t1 : Nat}
    (hns : h1.Ns s.heap.objs.size fun x => (N.zip us).reverse.lookup x) (hk : ∀ b o, s.heap.get? b = some o → h1.get? b = some o) :
    Inv (cxI CX P w K mg base N qual scope f cdv cc A outer s H E) [] (L2.start N vs) H { s with heap := h1, toks := t1 } := by
  have hul : us.length = N.length := by rw [← r.length]; exact hl
  have cells : ∀ {x : Str} {c : Addr}, (cxI CX P w K mg base N qual scope f cdv cc A outer s H E).env.cells.lookup x = some c → x = ("__class__" : Str) ∧ c = cc := fun {x c} e => by
    have e : List.lookup x [(("__class__" : Str), cc)] = some c := e
    rw [List.lookup_cons] at e
    cases hx : x == ("__class__" : Str) with
    | true => rw [hx] at e; cases e; exact ⟨by simpa using hx, rfl⟩
    | false => rw [hx] at e; cases e
  have hcb : base.get? cc = some ⟨cl, cd, .cell (some (.ref D)), sl⟩ := e0.mod.kin _ _ hcell
  have noA : ∀ b : Addr, b ∉ (cxI CX P w K mg base N qual scope f cdv cc A outer s H E).ex := fun b z => absurd (show b ∈ ([] : List Addr) from z) (by simp)
  refine ⟨⟨e0.mod, S.kind, rfl, rfl, Nat.le_refl _, fun y z c h1 h2 => ?_, fun y hy => ?_, fun y c hf _ => (by cases hf), fun _ => hd, Around.frames_deeper e0.frames, .inr ⟨rfl, rfl⟩, fun b z => absurd z (noA b), e0.bs, e0.bsz, fun b _ _ => noA b, fun b z => absurd z (noA b), e0.funs, e0.frf⟩,
    rfl, e0.bare, Un.kept hk, ⟨_, hns, fun i y v h1 h2 h3 => ?_⟩, fun y c h => ?_, e0.hok.fresh (Nat.le_refl _), fun y c h => ?_, fun q hq => absurd (show q ∈ ([] : List (Addr × Obj)) from hq) (by simp), e0.hok.kept hk, ?_⟩
  · rw [(cells h1).1, (cells h2).1]
  · have hy : scope.names.lookup y = some .cell ∨ scope.names.lookup y = some .free := hy
    rcases hy with hy | hy
    · exact absurd rfl (S.nocell _ (PySem.mem_of_lookup hy))
    · have e := S.free _ (PySem.mem_of_lookup hy) rfl
      have e : y = ("__class__" : Str) := e
      subst e
      exact ⟨cc, by show List.lookup _ [(("__class__" : Str), cc)] = _; rw [List.lookup_cons]; simp⟩
  · have hi : i < vs.length := by
      have := (List.getElem?_eq_some_iff.mp h1).1
      have h1' : i < N.length := this
      omega
    have ha : vs[i]? = some v := by
      unfold L2.start at h2
      rw [List.getElem?_append_left (by simpa using hi), List.getElem?_map] at h2
      cases e : vs[i]? with
      | none => rw [e] at h2; cases h2
      | some a => rw [e] at h2; cases h2; rfl
    obtain ⟨u, hu, rv⟩ := r.get ha
    exact ⟨u, rv, .inl ⟨S.par y (List.mem_of_getElem? h1), lookup_rev S.nd hul h1 hu⟩⟩
  · obtain ⟨_, rfl⟩ := cells h
    exact ⟨_, _, hk _ _ (e0.bs _ _ hcb).1, rfl⟩
  · obtain ⟨_, rfl⟩ := cells h
    exact (e0.bs _ _ hcb).2
  · unfold L2.start
    show _ = N.length
    rw [List.length_append, List.length_map, List.length_replicate]
    omega
end
/-! ### the stores -/
def tSto (K : PySem.W.Frag) : List (Str × Nat) → TS
  | [] => tNext
  | q :: r => tSeq (tOst K q.1 (tVar 0) (tVar q.2)) (tSto K r)
theorem sto_old {K : PySem.W.Frag} {D : Ends} {σ : St} {H : Hp} {a C dx : Addr} (ox : OexC K C) (hσ : σ[0]? = some (some (.ref a))) (hne : dx ≠ a) : ∀ {r : List (Str × Nat)} {ys : List V} {l : List (Str × V)}, (∀ q ∈ r, PySem.W.findIn K (.ref C) q.1 = some none) → r.length = ys.length → (∀ (i : Nat) (q : Str × Nat) (y : V), r[i]? = some q → ys[i]? = some y → σ[q.2]? = some (some y)) → r.length + l.length ≤ 800 →
    D.nx σ (upd (upd H dx (exd dx (((r.map (·.1)).zip ys).reverse ++ l))) a (exo a C (some dx))) → tSto K r D σ (upd (upd H dx (exd dx l)) a (exo a C (some dx)))
  | [], ys, l, _, hl, _, _, h => by
    cases ys with
    | nil => exact h
    | cons => simp at hl
  | q :: r, [], l, _, hl, _, _, h => by simp at hl
  | q :: r, y :: ys, l, hno, hl, hs, hz, h => by
    refine ⟨y, hs 0 q y rfl rfl, .ref a, hσ, a, C, rfl, ox, hno q (by simp), .inr ⟨dx, l, upd_same, ?_, ?_, ?_⟩⟩
    · rw [upd_ne hne]; exact upd_same
    · simp at hz; omega
    · have e : upd (upd (upd H dx (exd dx l)) a (exo a C (some dx))) dx (exd dx ((q.1, y) :: l)) = upd (upd H dx (exd dx ((q.1, y) :: l))) a (exo a C (some dx)) := by
        funext b
        by_cases hb : b = dx
        · subst hb; rw [upd_same, upd_ne hne, upd_same]
        · rw [upd_ne hb]
          by_cases hba : b = a
          · subst hba; rw [upd_same, upd_same]
          · rw [upd_ne hba, upd_ne hb, upd_ne hba, upd_ne hb]
      show tSto K r D σ _
      rw [e]
      refine sto_old ox hσ hne (fun z hz => hno z (List.mem_cons_of_mem _ hz)) (by simpa using hl) (fun i z w h1 h2 => hs (i + 1) z w (by simpa using h1) (by simpa using h2)) (by simp at hz ⊢; omega) ?_
      rw [List.map_cons, List.zip_cons_cons, List.reverse_cons, List.append_assoc] at h
      exact h
theorem sto_new {K : PySem.W.Frag} {D : Ends} {σ : St} {H : Hp} {a C : Addr} (ox : OexC K C) (hσ : σ[0]? = some (some (.ref a))) (ha : H a = some (exo a C none)) {r : List (Str × Nat)} {ys : List V} (hn : r ≠ []) (hno : ∀ q ∈ r, PySem.W.findIn K (.ref C) q.1 = some none) (hl : r.length = ys.length)
    (hs : ∀ (i : Nat) (q : Str × Nat) (y : V), r[i]? = some q → ys[i]? = some y → σ[q.2]? = some (some y)) (hz : r.length ≤ 700) (h : ∀ dx, H dx = none → dx ≠ a → D.nx σ (upd (upd H dx (exd dx ((r.map (·.1)).zip ys).reverse)) a (exo a C (some dx)))) : tSto K r D σ H := by
  cases r with
  | nil => exact absurd rfl hn
  | cons q r =>
    cases ys with
    | nil => simp at hl
    | cons y ys =>
      refine ⟨y, hs 0 q y rfl rfl, .ref a, hσ, a, C, rfl, ox, hno q (by simp), .inl ⟨ha, fun dx ndx hne => ?_⟩⟩
      refine sto_old ox hσ hne (fun z hz => hno z (List.mem_cons_of_mem _ hz)) (by simpa using hl) (fun i z w h1 h2 => hs (i + 1) z w (by simpa using h1) (by simpa using h2)) (by simp at hz ⊢; omega) ?_
      have := h dx ndx hne
      rw [List.map_cons, List.zip_cons_cons, List.reverse_cons] at this
      exact this
def stF (sf : Str) : Stmt → Option Str
  | .Assign [.Attribute (.Name s _) f _] (.Name g _) _ => if s = sf ∧ f = g then some f else none
  | _ => none
theorem sto_ps {X : Cx} {sf : Str} (h0 : X.N[0]? = some sf) (hN : ∀ x ∈ X.N, X.env.scope.names.lookup x = some .local ∧ (x == ("__debug__" : Str)) = false ∧ (x == ("__classdict__" : Str)) = false) : ∀ {ss : List Stmt} {fs : List Str} {j : Nat}, ss.mapM (stF sf) = some fs → (∀ (i : Nat) (x : Str), fs[i]? = some x → X.N[i + j]? = some x) →
    PSs X ss (tSto X.K (fs.zipIdx j))
  | [], fs, j, h, hx => by cases h; exact pss_nil
  | s :: ss, fs, j, h, hx => by
    rw [List.mapM_cons] at h
    obtain ⟨x, h1, h⟩ := obind h
    obtain ⟨fs', h2, h⟩ := obind h
    cases h
    have e : ∃ p1 p2 p3 p4, s = .Assign [.Attribute (.Name sf p1) x p2] (.Name x p3) p4 := by
      unfold stF at h1
      split at h1
      · split at h1
        · rename_i hh
          cases h1
          obtain ⟨rfl, rfl⟩ := hh
          exact ⟨_, _, _, _, rfl⟩
        · cases h1
      · cases h1
    obtain ⟨p1, p2, p3, p4, rfl⟩ := e
    have hj := hx 0 x rfl
    rw [Nat.zero_add] at hj
    obtain ⟨a1, a2, a3⟩ := hN sf (List.mem_of_getElem? h0)
    obtain ⟨b1, b2, b3⟩ := hN x (List.mem_of_getElem? hj)
    rw [List.zipIdx_cons]
    exact pss_cons (ps_ost (pe_var h0 (.inl a1) a2 a3) (pe_var hj (.inl b1) b2 b3)) (sto_ps h0 hN h2 fun i y hy => by rw [show i + (j + 1) = (i + 1) + j by omega]; exact hx (i + 1) y (by simpa using hy))

/-! ### the promise of such an __init__ -/
def spI (K : PySem.W.Frag) (D : Addr) (fs : List Str) : Sp := fun vs H Q _ => vs.length = fs.length + 1 ∧ ∃ (a C : Addr) (ys : List V), vs = .ref a :: ys ∧ H a = some (exo a C none) ∧ IniC K D C fs ∧ ∀ dx, H dx = none → dx ≠ a → Q .non (upd (upd H dx (exd dx (fs.zip ys).reverse)) a (exo a C (some dx)))
/-- what stands of it -/
structure IniF (P : Program) (K : PySem.W.Frag) (mg : Str → Option Value) (f D : Addr) (fd : FuncData) (sf : Str) (fs : List Str) : Prop where
  ex : ∃ (oc : Value) (od : Option Addr) (osl : Array (Option Value)) (name qual : Str) (params : Arguments) (body : List Stmt) (scope : Scope) (kV doc pm ct : Value) (an : Option Addr) (cda cc : Addr),
    fd = PySem.W.ksFn name qual params body scope .none kV doc pm an (.ref cda) ct cc ∧ K.lookup f = some ⟨oc, od, .func fd, osl⟩ ∧ PySem.W.codeIn K (.ref cda) qual = true ∧ plainP params (sf :: fs) = true ∧ IScope (sf :: fs) scope ∧
    scope.names.lookup ("super" : Str) = some .globalImplicit ∧ scope.names.lookup ("__class__" : Str) = some .free ∧
    (∃ (p0 p1 p2 p3 p4 p5 : Pos) (z : Str) (j : Nat) (rest : List Stmt), body = .Expr (.Call (.Attribute (.Call (.Name "super" p0) [] [] p1) "__init__" p2) [.Constant (.str z) j p3] [] p4) p5 :: rest ∧ SupEv p0 p1 p2 p3 p4 z j ∧ rest.mapM (stF sf) = some fs) ∧
    (∃ (c1 : Value) (d1 : Option Addr) (vs : Array Value) (s1 : Array (Option Value)) (file : Str) (tf : Tok), K.lookup cda = some ⟨c1, d1, .fields vs, s1⟩ ∧ vs[2]? = some (.str file tf) ∧ ((P.main.file : Str) == file) = true) ∧
    (∃ (c1 : Value) (d1 : Option Addr) (s1 : Array (Option Value)), K.lookup cc = some ⟨c1, d1, .cell (some (.ref D)), s1⟩)
  cls : ∃ cd, PySem.W.clsIn K D = some cd
  top : (P.main.scope.names.lookup ("super" : Str)).isSome = false
  mg : mg "super" = none
  few : fs.length ≤ 600
  ne : fs ≠ []
  dbg : ∀ x ∈ sf :: fs, (x == ("__debug__" : Str)) = false ∧ (x == ("__classdict__" : Str)) = false
theorem startN {N : List Str} {vs : List V} {i : Nat} {v : V} (h : vs[i]? = some v) : (L2.start N vs)[i]? = some (some v) := by
  unfold L2.start
  obtain ⟨hlt, _⟩ := List.getElem?_eq_some_iff.mp h
  rw [List.getElem?_append_left (by simpa using hlt), List.getElem?_map, h]
  rfl
theorem ini_ok {P : Program} {w : World} {K : PySem.W.Frag} {mg : Str → Option Value} {base : Heap} {f D : Addr} {fd : FuncData} {sf : Str} {fs : List Str} {CX : CXT} (T : IniF P K mg f D fd sf fs) : FnOk P w K mg base CX 1 f fd (sf :: fs) (spI K D fs) := by
  obtain ⟨oc, od, osl, name, qual, params, body, scope, kV, doc, pm, ct, an, cda, cc, rfl, lk, hcd, hpl, S, hks, hkc, ⟨p0, p1, p2, p3, p4, p5, z, j, rest, rfl, ev, hrest⟩, hfile, hcell⟩ := T.ex
  refine ⟨fun vs H Q E h => h.1, fun A outer s H args us vs Q E hr e0 hb r hsp => ?_⟩
  obtain ⟨hlen, a, C, ys, rfl, ha, c, hq⟩ := hsp
  have KX : K.In s.heap := e0.mod.kin.keeps fun b o e => (e0.bs b o e).1
  have lim : s.heap.NoLimit := e0.mod.nolimit.keeps fun b o e => (e0.bs b o e).1
  have hul : us.length = (sf :: fs).length := by rw [← r.length]; exact hlen
  refine ks_codeAny_call_defAt (fd := PySem.W.ksFn name qual params _ scope .none kV doc pm an (.ref cda) ct cc) hr.depth (KX _ _ lk) rfl lim (PySem.W.codeRec_of KX hcd) rfl hb S.nocell (fun y hy => S.par y.1 (List.of_mem_zip hy).1) (fun h₀ hns hk => ?_) S.co S.gen S.kind
  obtain ⟨c2, d2, s2, hcl⟩ := hcell
  have I0 : Inv (cxI CX P w K mg base (sf :: fs) qual scope f (.ref cda) cc A outer s H E) [] (L2.start (sf :: fs) (.ref a :: ys)) H { s with heap := h₀, toks := s.toks + ((sf :: fs).zip us).length } := inv_init S hr.hd e0 hlen r hcl hns hk
  have U : SupAt (cxI CX P w K mg base (sf :: fs) qual scope f (.ref cda) cc A outer s H E) f cda cc D sf := {
    lk := by
      unfold plainP at hpl
      simp only [Bool.and_eq_true, decide_eq_true_iff, List.isEmpty_iff, Option.isNone_iff_eq_none] at hpl
      obtain ⟨⟨⟨⟨⟨h1, h2⟩, h3⟩, h4⟩, h5⟩, h6⟩ := hpl
      cases har : params.args with
      | nil => rw [har] at h5; cases h5
      | cons ar ars =>
        rw [har] at h5
        refine ⟨oc, od, osl, _, ar, lk, ?_, ?_⟩
        · show (params.posonlyargs ++ params.args).head? = some ar
          rw [h1, har]; rfl
        · exact (List.cons.inj h5).1
    fu := rfl
    co := rfl
    file := hfile
    cell := ⟨c2, d2, s2, hcl⟩
    cls := T.cls
    at_ := by show List.lookup _ [(("__class__" : Str), cc)] = _; rw [List.lookup_cons]; simp
    ks := hks
    kc := hkc
    kself := S.par sf (by simp)
    n0 := rfl
    top := T.top
    mg := T.mg }
  refine ks_wpAt_execs_cons (sup_line U ev c I0 (startN rfl) ha fun s' I' => ?_)
  show _root_.PySem.wpAt _ _ _ _ _ _ _
  refine wpAt_of_wpAny ?_
  have st := sto_ps (X := cxI CX P w K mg base (sf :: fs) qual scope f (.ref cda) cc A outer s H E) (sf := sf) rfl (fun x hx => ⟨S.par x hx, T.dbg x hx⟩) (fs := fs) (j := 1) hrest (fun i x hi => by show (sf :: fs)[i + 1]? = _; simpa using hi)
  have hyl : fs.length = ys.length := by simp at hlen; omega
  refine wpAny_mono (st.run [] s' _ H { nx := fun _ H' => Q .non H', rt := fun _ _ => False } I' ?_) (fun fl s2 e2 => ?_) fun e s2 he => ?_
  · refine sto_new c.ox (startN rfl) ha (ys := ys) (fun z => T.ne (by simpa using z)) (fun q hq2 => c.no q.1 ?_) (by simpa using hyl) (fun i q y h1 h2 => ?_) (by simp; have := T.few; omega) fun dx nd hne => ?_
    · have := List.mem_zipIdx hq2
      rw [this.2.2]
      exact List.getElem_mem _
    · rw [List.getElem?_zipIdx] at h1
      cases e : fs[i]? with
      | none => rw [e] at h1; cases h1
      | some x =>
        rw [e] at h1
        cases h1
        exact startN (by show (V.ref a :: ys)[1 + i]? = _; rw [Nat.add_comm]; simpa using h2)
    · have := hq dx nd hne
      rw [show (fs.zipIdx 1).map (·.1) = fs from List.zipIdx_map_fst 1 fs]
      exact this
  · cases fl with
    | next =>
      obtain ⟨σ2, H2, J, q2⟩ := e2
      exact ⟨.non, H2, J.os, J.bare, J.base, J.hok, rfl, q2⟩
    | ret u => obtain ⟨_, _, _, _, _, z⟩ := e2; exact False.elim z
    | brk => obtain ⟨_, _, _, z⟩ := e2; exact False.elim z
    | cont => obtain ⟨_, _, _, z⟩ := e2; exact False.elim z
  · exact he
end Pv


namespace Pv
open PySem PySem.Spec L2
open PyProof.Rows hiding St

inductive ClsMk (P : Program) (K : PySem.W.Frag) (mg : Str → Option Value) (C : Addr) (c : ClI) : Prop
  | plain (h0 : c.flds = []) (h1 : PySem.W.excIn K C He.veBase "ValueError.__new__" = true) (h2 : PySem.W.keepIn K (.ref C) = true) (h3 : PySem.W.subIn K (.ref C) (.type "BaseException") = some true) (h4 : PySem.W.typeIn K (.ref C) = some (.type "type"))
  | init (h0 : c.flds ≠ []) {f D : Addr} {fd : FuncData} {sf : Str} (h1 : PySem.W.findIn K (.ref C) "__init__" = some (some (.ref f))) (h2 : PySem.W.typeIn K (.ref f) = some (.type "function")) (h3 : IniF P K mg f D fd sf c.flds.reverse) (h4 : IniC K D C c.flds.reverse)
theorem zip_rev {α β : Type} : ∀ {xs : List α} {ys : List β}, xs.length = ys.length → (xs.zip ys).reverse = xs.reverse.zip ys.reverse
  | [], [], _ => rfl
  | [], _ :: _, h => by simp at h
  | _ :: _, [], h => by simp at h
  | x :: xs, y :: ys, h => by
    have h' : xs.length = ys.length := by simpa using h
    rw [List.zip_cons_cons, List.reverse_cons, List.reverse_cons, List.reverse_cons, zip_rev h', List.zip_append (by simpa using h')]
    rfl
def moA (t : TA) : TA := fun σ H Q => ∃ P, t σ H P ∧ ∀ vs H1, P vs H1 → Q vs H1
theorem pa_mo {X : Cx} {es : List Expr} {t : TA} (h : PA X es t) : PA X es (moA t) := ⟨fun pos pins s σ H Q I ⟨P, hp, hq⟩ => thn (h.run pos pins s σ H P I hp) fun us s1 ⟨vs, H1, I1, r1, p1⟩ => ⟨vs, H1, I1, r1, hq vs H1 p1⟩⟩
theorem ini_bind {P : Program} {K : PySem.W.Frag} {mg : Str → Option Value} {f D : Addr} {fd : FuncData} {sf : Str} {fs : List Str} (T : IniF P K mg f D fd sf fs) {us : List Value} (hl : us.length = (sf :: fs).length) : bindArgs fd ⟨us, []⟩ = pure ((sf :: fs).zip us) := by
  obtain ⟨oc, od, osl, name, qual, params, body, scope, kV, doc, pm, ct, an, cda, cc, rfl, lk, hcd, hpl, _⟩ := T.ex
  exact bind_plain (name := name) (qual := qual) (body := body) (scope := scope) (kV := kV) (doc := doc) (pm := pm) (cdv := .ref cda) (ct := ct) (an := an) hpl hl
theorem mk_of {X : Cx} {C : Addr} {c : ClI} (M : ClsMk X.prog X.K X.mg C c) (hm : X.mg c.name = some (.ref C)) (hr : Room 2 X.A) (hg : Gl X c.name) (hd : (c.name == ("__debug__" : Str)) = false) {e : Expr} {es : List Expr} {ta : TA} {p pos : Pos} (ha : PA X (e :: es) ta)
    (hs : starEach (e :: es) X.env = (false, eval e X.env) :: starEach es X.env) (hp : (backTo pos (starEach es X.env)).any (·.1) = false) :
    PMk X (.Call (.Name c.name p) (e :: es) [] pos) (fun σ H Q => ta σ H fun vs H1 => vs.length ≤ 1000 ∧ (c.flds = [] → Q (.ref C) none H1) ∧ (c.flds ≠ [] → vs.length = c.flds.length ∧ ∀ dx, H1 dx = none → Q (.ref C) (some dx) (upd H1 dx (.xd (c.flds.zip vs.reverse))))) := by
  have ha' := pa_mo ha
  cases M with
  | plain h0 h1 h2 h3 h4 =>
    intro pins s σ H Q I h
    refine pmk_ownA (X := X) (x := c.name) (p := p) (pos := pos) F.excBase_ValueError h1 hm h2 (raises_own h3 h4) hg ha' hd hs hp pins s σ H Q I ⟨_, h, fun vs H1 q => ⟨?_, q.2.1 h0⟩⟩
    have := sizeLine_eq
    have := q.1
    omega
  | init h0 h1 h2 h3 h4 =>
    intro pins s σ H Q I h
    have hb : Binds X.K _ _ [] := Binds.all (fd := _) (ps := _) fun us hl => ini_bind h3 hl
    refine pmk_oex (X := X) (dvs := []) (ds := []) h4.ox h1 h2 (ini_ok h3) hr hb .nil passL hg hm ha' hd hs hp pins s σ H Q I ⟨_, h, fun vs H1 q => ⟨q.1, fun a na => ?_⟩⟩
    obtain ⟨q1, q2⟩ := q.2.2 h0
    refine ⟨by simp; exact q1, a, C, vs, by simp, upd_same, h4, fun dx nd hne => ⟨rfl, dx, (c.flds.reverse.zip vs).reverse, upd_same, by rw [upd_ne hne]; exact upd_same, ?_, ?_⟩⟩
    · rw [upd_ne hne] at nd; exact nd
    · have e1 : (c.flds.reverse.zip vs).reverse = c.flds.zip vs.reverse := by
        rw [zip_rev (by simpa using q1.symm), List.reverse_reverse]
      have n1 : H1 dx = none := by rw [upd_ne hne] at nd; exact nd
      have e2 : upd (del (upd (upd (upd H1 a (exo a C none)) dx (exd dx (c.flds.reverse.zip vs).reverse)) a (exo a C (some dx))) a) dx (.xd (c.flds.reverse.zip vs).reverse) = upd H1 dx (.xd (c.flds.zip vs.reverse)) := by
        rw [e1]
        funext b
        by_cases hb : b = dx
        · subst hb; rw [upd_same, upd_same]
        · rw [upd_ne hb, upd_ne hb]
          by_cases hba : b = a
          · subst hba; rw [del_same, na]
          · rw [del_ne hba, upd_ne hba, upd_ne hb, upd_ne hba]
      rw [e2]
      exact q2 dx n1
end Pv


/-! what the head tells of a program -/
namespace Pv
open PySem PySem.Spec L2
open PyProof.Rows hiding St
open PySem.W (Frag)

/-! ### constants -/
mutual
def dataB (K : Frag) : PyData → Value → Bool
  | .none, u => (match u with | .none => true | _ => false)
  | .bool b, u => (match u with | .bool c => b == c | _ => false)
  | .int i, u => (match u with | .int j _ => decide (i = j) | _ => false)
  | .str x, u => (match u with | .str y _ => decide (x = y) | _ => false)
  | .tuple ds, u => (match u with
    | .ref a => (match K.lookup a with
      | some ⟨.type c, _, .seq its _, _⟩ => decide (c = "tuple") && (decide (its.size ≤ sizeLine) && datasB K ds its.toList)
      | _ => false)
    | _ => false)
  | .list _, _ => false
  | .dict _, _ => false
def datasB (K : Frag) : List PyData → List Value → Bool
  | [], us => us.isEmpty
  | d :: ds, us => (match us with
    | u :: us => dataB K d u && datasB K ds us
    | [] => false)
end
mutual
theorem dataB_ok {K : Frag} : ∀ (d : PyData) (u : Value), dataB K d u = true → ∃ v, RelV v u ∧ ∀ F H, Rp K F H d v
  | .none, u, h => by
    cases u <;> first | exact ⟨.non, rfl, fun _ _ => rfl⟩ | cases h
  | .bool b, u, h => by
    cases u with
    | bool c =>
      have h : (b == c) = true := h
      rw [beq_iff_eq] at h
      subst h
      exact ⟨.bl b, rfl, fun _ _ => rfl⟩
    | _ => cases h
  | .int i, u, h => by
    cases u with
    | int j t =>
      have h := of_decide_eq_true (show decide (i = j) = true from h)
      subst h
      exact ⟨.int i, ⟨t, rfl⟩, fun _ _ => rfl⟩
    | _ => cases h
  | .str x, u, h => by
    cases u with
    | str y t =>
      have h := of_decide_eq_true (show decide (x = y) = true from h)
      subst h
      exact ⟨.str x, ⟨t, rfl⟩, fun _ _ => rfl⟩
    | _ => cases h
  | .tuple ds, u, h => by
    cases u with
    | ref a =>
      have h : (match K.lookup a with
        | some ⟨.type c, _, .seq its _, _⟩ => decide (c = "tuple") && (decide (its.size ≤ sizeLine) && datasB K ds its.toList)
        | _ => false) = true := h
      split at h
      · rename_i c dd its n sl hl
        rw [Bool.and_eq_true, Bool.and_eq_true] at h
        have e := of_decide_eq_true h.1
        subst e
        obtain ⟨vs, rv, rr⟩ := datasB_ok ds its.toList h.2.2
        exact ⟨.ref a, rfl, fun F H => ⟨a, vs, rfl, .inr ⟨_, its, n, hl, rfl, rfl, of_decide_eq_true h.2.1, rv⟩, rr F H⟩⟩
      · cases h
    | _ => cases h
  | .list _, _, h => by cases h
  | .dict _, _, h => by cases h
theorem datasB_ok {K : Frag} : ∀ (ds : List PyData) (us : List Value), datasB K ds us = true → ∃ vs, Vals vs us ∧ ∀ F H, Rps K F H ds vs
  | [], us, h => by
    have h : us.isEmpty = true := h
    rw [List.isEmpty_iff] at h
    subst h
    exact ⟨[], .nil, fun _ _ => rfl⟩
  | d :: ds, us, h => by
    cases us with
    | nil => cases h
    | cons u us =>
      have h : (dataB K d u && datasB K ds us) = true := h
      rw [Bool.and_eq_true] at h
      obtain ⟨v, rv, rp⟩ := dataB_ok d u h.1
      obtain ⟨vs, rvs, rps⟩ := datasB_ok ds us h.2
      exact ⟨v :: vs, .cons rv rvs, fun F H => ⟨v, vs, rfl, rp F H, rps F H⟩⟩
end
def conB (K : Frag) (q : Str × PyData) : Bool := match PySem.W.nsIn K mainGlobals q.1 with
  | some (some u) => dataB K q.2 u
  | _ => false
/-! ### classes -/
def bxs : List (Str × String) := [("ValueError", "ValueError"), ("Exception", "Exception"), ("TypeError", "TypeError"), ("KeyError", "KeyError"), ("IndexError", "IndexError")]
theorem bxs_boot : ∀ q ∈ bxs, bootBuiltins q.1 = some (.type q.2) := by decide +kernel
theorem biExc_bxs : biExc = bxs.map (·.1) := rfl
def eqV (a b : Option (Option Value)) : Bool := decide (a = b)
def clsB (G : GI) (K : Frag) (c : ClI) : Bool :=
  decide (PySem.W.findIn K (.ref (He.ga K c.name)) "__getattribute__" = some (some (.builtin "BaseException.__getattribute__"))) &&
  (decide (PySem.W.findIn K (.ref (He.ga K c.name)) "__getattr__" = some none) &&
  (decide (PySem.W.subIn K (.ref (He.ga K c.name)) (.type "BaseException") = some true) &&
  (PySem.W.hasDictIn K (He.ga K c.name) &&
  (decide (PySem.W.findIn K (.ref (He.ga K c.name)) "__class__" = some (some (.builtin "object.__class__"))) &&
  (decide (PySem.W.mroIn K (He.ga K c.name) (.type "object") = some true) &&
  ((c.flds.all fun f => decide (PySem.W.findIn K (.ref (He.ga K c.name)) f = some none)) &&
  ((G.cls.all fun t => decide (PySem.W.kitOne K (.ref (He.ga K c.name)) (.ref (He.ga K t.name)) = some (decide (t.name ∈ c.ups))) && decide (PySem.W.exmOne K (.ref (He.ga K c.name)) (.ref (He.ga K t.name)) = some (decide (t.name ∈ c.ups)))) &&
  (bxs.all fun t => decide (PySem.W.kitOne K (.ref (He.ga K c.name)) (.type t.2) = some (decide (t.1 ∈ c.ups))) && decide (PySem.W.exmOne K (.ref (He.ga K c.name)) (.type t.2) = some (decide (t.1 ∈ c.ups)))))))))))
def clsK (K : Frag) : Bool := decide (PySem.W.specialIn K (.builtin "object.__class__") "__get__" = some (some (.builtin "getset_descriptor.__get__"))) && decide (PySem.W.takesIn K (.builtin "object.__class__") = some true)
section
variable {G : GI} {K : Frag} {mg : Str → Option Value}
theorem find_name {n : Str} (h : G.has n = true) : ∃ c ∈ G.cls, c.name = n ∧ G.flds n = c.flds ∧ G.ups n = c.ups := by
  obtain ⟨c0, hc0, hn0⟩ := List.any_eq_true.mp h
  cases hf : G.cls.find? (fun c => decide (c.name = n)) with
  | none => exact absurd hn0 (List.find?_eq_none.mp hf c0 hc0)
  | some c =>
    refine ⟨c, List.mem_of_find?_eq_some hf, ?_, ?_, ?_⟩
    · have := List.find?_some hf; exact of_decide_eq_true this
    · unfold GI.flds; rw [hf]
    · unfold GI.ups; rw [hf]
theorem clsB_ok (hg : ∀ t, G.has t = true → mg t = some (.ref (He.ga K t))) (hk : clsK K = true) (h : ∀ c ∈ G.cls, clsB G K c = true) {n : Str} {C : Addr} (hn : G.has n = true) (hC : mg n = some (.ref C)) : ClOk G K mg n C := by
  rw [hg n hn] at hC
  cases hC
  obtain ⟨c, hc, hcn, hfl, hup⟩ := find_name hn
  have hb := h c hc
  unfold clsB at hb
  rw [hcn] at hb
  simp only [Bool.and_eq_true, decide_eq_true_iff, List.all_eq_true] at hb
  obtain ⟨b1, b2, b3, b4, b5, b6, b7, b8, b9⟩ := hb
  unfold clsK at hk
  simp only [Bool.and_eq_true, decide_eq_true_iff] at hk
  refine ⟨b1, b2, b3, b4, b5, hk.1, hk.2, b6, fun f hf => b7 f (by rw [← hfl]; exact hf), fun t cv ht => ?_, fun t cv ht => ?_⟩
  · rw [hup]
    rcases ht with ⟨h1, h2⟩ | ⟨h1, h2, h3⟩
    · rw [hg t h1] at h2
      cases h2
      obtain ⟨c', hc', hn', _⟩ := find_name h1
      subst hn'
      exact (b8 c' hc').1
    · rw [biExc_bxs] at h1
      obtain ⟨q, hq, rfl⟩ := List.mem_map.mp h1
      rw [bxs_boot q hq] at h3
      cases h3
      exact (b9 q hq).1
  · rw [hup]
    rcases ht with ⟨h1, h2⟩ | ⟨h1, h2, h3⟩
    · rw [hg t h1] at h2
      cases h2
      obtain ⟨c', hc', hn', _⟩ := find_name h1
      subst hn'
      exact (b8 c' hc').2
    · rw [biExc_bxs] at h1
      obtain ⟨q, hq, rfl⟩ := List.mem_map.mp h1
      rw [bxs_boot q hq] at h3
      cases h3
      exact (b9 q hq).2
end
/-! ### the __init__s -/
structure IniX where
  cls : Str
  home : Str
  sf : Str
  name : Str
  qual : Str
  params : Arguments
  body : List Stmt
  scope : Scope
abbrev IniW : Type := Option (Str × Str × Arguments × FuncBody × Scope × Addr × List Str × Addr)
def iniAd (K : Frag) (x : Str) : Addr := He.ma K (He.ga K x) "__init__"
def iniW (K : Frag) (x : Str) : IniW := match K.lookup (iniAd K x) with
  | some ⟨_, _, .func fd, _⟩ => some (fd.name, fd.qualname, fd.params, fd.body, fd.scope, fd.globals, fd.closure.map (·.1), fd.builtins)
  | _ => none
def IniX.val (d : IniX) : IniW := some (d.name, d.qual, d.params, .stmts d.body, d.scope, mainGlobals, ["__class__"], builtinsNs)
def oexB (K : Frag) (C : Addr) : Bool := (match K.lookup C with
  | some ⟨.type c, _, .cls cd, sl⟩ => c == "type" && (match cd.mro, sl.toList with
    | .ref C' :: bm, [_, _, _, _, some (.builtin n), _] => (C' == C && (n == "ValueError.__new__" && (!cd.hasDel && (cd.hasDict && HandSPX.refsVE bm)))) 
    | _, _ => false)
  | _ => false) && (decide (PySem.W.findIn K (.ref C) "__setattr__" = some (some (.builtin "object.__setattr__"))) && (decide (PySem.W.subIn K (.ref C) (.type "BaseException") = some true) && (decide (PySem.W.typeIn K (.ref C) = some (.type "type")) && PySem.W.keepIn K (.ref C))))
theorem oexB_ok {K : Frag} {C : Addr} (h : oexB K C = true) : OexC K C := by
  unfold oexB at h
  simp only [Bool.and_eq_true, decide_eq_true_iff] at h
  obtain ⟨h1, h2, h3, h4, h5⟩ := h
  refine ⟨?_, h2, h3, h4, h5⟩
  split at h1
  · rename_i c dd cd sl ho
    rw [Bool.and_eq_true, beq_iff_eq] at h1
    obtain ⟨rfl, h1⟩ := h1
    split at h1
    · rename_i C' bm k0 k1 k2 k3 n k5 hm hs
      simp only [Bool.and_eq_true, beq_iff_eq, Bool.not_eq_true'] at h1
      obtain ⟨rfl, rfl, a3, a4, a5⟩ := h1
      obtain ⟨nm, bs, mro, ns, qn, hd, sn, sub, ab, col, del⟩ := cd
      dsimp only at hm a3 a4
      subst hm a3 a4
      have hsl : sl = #[k0, k1, k2, k3, some (.builtin "ValueError.__new__"), k5] := by
        apply Array.ext'
        simpa using hs
      subst hsl
      exact ⟨nm, qn, ns, bs, bm, sn, sub, ab, col, dd, k0, k1, k2, k3, k5, ho, a5⟩
    · cases h1
  · cases h1
def iniB (file : Str) (K : Frag) (fs : List Str) (d : IniX) : Bool :=
  oexB K (He.ga K d.cls) && ((fs.all fun f => decide (PySem.W.findIn K (.ref (He.ga K d.cls)) f = some none)) && (decide (PySem.W.mroIn K (He.ga K d.cls) (.ref (He.ga K d.home)) = some true) &&
  (decide (PySem.W.ks_superIn K (He.ga K d.cls) (He.ga K d.home) "__init__" = some (some (.builtin "ValueError.__init__"))) && (decide (PySem.W.subIn K (.ref (He.ga K d.cls)) (.type "ValueError") = some true) &&
  (decide (PySem.W.nsIn K cStatics "thirdparty.any" = some none) && (decide (PySem.W.findIn K (.ref (He.ga K d.cls)) "__init__" = some (some (.ref (iniAd K d.cls)))) && (decide (PySem.W.typeIn K (.ref (iniAd K d.cls)) = some (.type "function")) &&
  ((PySem.W.clsIn K (He.ga K d.home)).isSome && (match K.lookup (iniAd K d.cls) with
    | some ⟨_, _, .func fd, _⟩ => (match fd.code, fd.defaults, fd.closure with
      | .ref cda, .none, [(_, cc)] => PySem.W.codeIn K (.ref cda) d.qual && ((match K.lookup cda with
        | some ⟨_, _, .fields vs, _⟩ => (match (vs[2]? : Option Value) with
          | some (Value.str f _) => file == f
          | _ => false)
        | _ => false) && (match K.lookup cc with
        | some ⟨_, _, .cell (some (.ref D)), _⟩ => D == He.ga K d.home
        | _ => false))
      | _, _, _ => false)
    | _ => false)))))))))
/-- of the text alone -/
structure IniT (P : Program) (d : IniX) (fs : List Str) : Prop where
  pl : plainP d.params (d.sf :: fs) = true
  sc : IScope (d.sf :: fs) d.scope
  ks : d.scope.names.lookup ("super" : Str) = some .globalImplicit
  kc : d.scope.names.lookup ("__class__" : Str) = some .free
  body : ∃ (p0 p1 p2 p3 p4 p5 : Pos) (z : Str) (j : Nat) (rest : List Stmt), d.body = .Expr (.Call (.Attribute (.Call (.Name "super" p0) [] [] p1) "__init__" p2) [.Constant (.str z) j p3] [] p4) p5 :: rest ∧ SupEv p0 p1 p2 p3 p4 z j ∧ rest.mapM (stF d.sf) = some fs
  top : (P.main.scope.names.lookup ("super" : Str)).isSome = false
  few : fs.length ≤ 600
  ne : fs ≠ []
  dbg : ∀ x ∈ d.sf :: fs, (x == ("__debug__" : Str)) = false ∧ (x == ("__classdict__" : Str)) = false
theorem ini_of {P : Program} {K : Frag} {mg : Str → Option Value} {d : IniX} {c : ClI} (T : IniT P d c.flds.reverse) (hn : d.cls = c.name) (hsup : mg "super" = none) (hw : iniW K d.cls = d.val) (hb : iniB P.main.file K c.flds.reverse d = true) : ClsMk P K mg (He.ga K c.name) c := by
  unfold iniB at hb
  simp only [Bool.and_eq_true, decide_eq_true_iff, List.all_eq_true] at hb
  obtain ⟨b1, b2, b3, b4, b5, b6, b7, b8, b9, b10⟩ := hb
  rw [hn] at b1 b2 b3 b4 b5 b7
  obtain ⟨cdD, hcdD⟩ := Option.isSome_iff_exists.mp b9
  unfold iniW at hw
  split at hw
  · rename_i oc od fd osl hl
    rw [hl] at b10
    dsimp only at b10
    split at b10
    · rename_i cda x cc hcode hdef hclo
      simp only [Bool.and_eq_true] at b10
      obtain ⟨c1, c2, c3⟩ := b10
      obtain ⟨nm, qn, pr, bd, sc, gl, clo, df, kd, doc, pm, an, code, ct, bl⟩ := fd
      dsimp only at hcode hdef hclo
      subst hcode hdef hclo
      simp only [IniX.val, Option.some.injEq, Prod.mk.injEq, List.map_cons, List.map_nil, List.cons.injEq, and_true] at hw
      obtain ⟨rfl, rfl, rfl, rfl, rfl, rfl, rfl, rfl⟩ := hw
      refine .init (f := iniAd K d.cls) (D := He.ga K d.home) (sf := d.sf) (fd := PySem.W.ksFn d.name d.qual d.params d.body d.scope .none kd doc pm an (.ref cda) ct cc) (fun z => T.ne (by rw [z]; rfl)) (by rw [b7, hn]) b8 ⟨?_, ⟨_, hcdD⟩, T.top, hsup, T.few, T.ne, T.dbg⟩ ⟨oexB_ok b1, b2, b3, b4, b5, b6⟩
      refine ⟨oc, od, osl, d.name, d.qual, d.params, d.body, d.scope, kd, doc, pm, ct, an, cda, cc, rfl, hl, c1, T.pl, T.sc, T.ks, T.kc, T.body, ?_, ?_⟩
      · split at c2
        · rename_i e1 e2 vs e3 e4
          split at c2
          · rename_i f tf e5
            exact ⟨e1, e2, vs, e3, f, tf, e4, e5, c2⟩
          · cases c2
        · cases c2
      · split at c3
        · rename_i e1 e2 D e3 e4
          rw [beq_iff_eq] at c3
          subst c3
          exact ⟨e1, e2, e3, e4⟩
        · cases c3
    · cases b10
  · cases hw
end Pv


/-! the head's Hook; the law's end -/
namespace Pv
open PySem PySem.Spec L2
open PyProof.Rows hiding St
open PySem.W (Frag)

structure Prg where
  prog : Program
  G : GI
  ini : List IniX
def Prg.fa (p : Prg) : List He.Fa := (p.G.fns.map fun f => .glo f.name) ++ ((p.G.cls.map fun c => .glo c.name) ++ ((biNames.map .free) ++ ((biExc.map .free) ++ [.free "super"])))
def Prg.fn (p : Prg) : List He.DefD := p.G.fns.map fun f => ⟨(f.name, none), f.name, f.name, f.params, f.body, f.scope, [], []⟩
def Prg.ex (p : Prg) (K : Frag) : Bool := clsK K && ((p.G.cls.all fun c => clsB p.G K c && (if c.flds = [] then PySem.W.excIn K (He.ga K c.name) He.veBase "ValueError.__new__" && (PySem.W.keepIn K (.ref (He.ga K c.name)) && (decide (PySem.W.subIn K (.ref (He.ga K c.name)) (.type "BaseException") = some true) && decide (PySem.W.typeIn K (.ref (He.ga K c.name)) = some (.type "type")))) else p.ini.any fun d => decide (d.cls = c.name) && iniB p.prog.main.file K c.flds.reverse d)) && p.G.cons.all (conB K))
def isLst (o : Obj) : Bool := match o.cls with
  | .type c => c == "list"
  | _ => false
def frP (n : Nat) (g : Addr → Option Obj) : Frag := (He.frG g (He.asD g n ++ [cStatics])).filter fun q => !isLst q.2
theorem lookup_memF : ∀ {K : Frag} {a : Addr} {o : Obj}, K.lookup a = some o → (a, o) ∈ K
  | [], _, _, h => by cases h
  | (b, u) :: K, a, o, h => by
    rw [List.lookup_cons] at h
    cases hx : a == b with
    | true => rw [hx] at h; cases h; rw [beq_iff_eq] at hx; subst hx; exact List.mem_cons_self
    | false => rw [hx] at h; exact List.mem_cons_of_mem _ (lookup_memF h)
theorem frP_in {n : Nat} {h : Heap} : (frP n h.get?).In h := fun a o e => He.frG_mem (List.mem_filter.mp (lookup_memF e)).1
theorem frP_no {n : Nat} {g : Addr → Option Obj} : ∀ a o, (frP n g).lookup a = some o → isLst o = false := fun a o e => by
  have := (List.mem_filter.mp (lookup_memF e)).2
  simpa using this
abbrev AlP : Type := He.AlD × (Bool × List IniW)
def Prg.obsK (p : Prg) (K : Frag) : AlP := (He.obsD p.fa p.fn K, (p.ex K, p.ini.map fun d => iniW K d.cls))
def Prg.val (p : Prg) : AlP := (He.valD p.fn, (true, p.ini.map IniX.val))
def Prg.obsG (p : Prg) (n : Nat) (g : Addr → Option Obj) : AlP := p.obsK (frP n g)
def Prg.hook (p : Prg) (n : Nat) : PySem.W.Hook where
  α := AlP
  obs := fun s => p.obsG n s.heap.get?
  val := fun _ => p.val
  says := fun _ h => ∃ K : Frag, K.In h ∧ (∀ a o, K.lookup a = some o → isLst o = false) ∧ p.obsK K = p.val
  of := fun _ _ e => ⟨_, frP_in, frP_no, e⟩
  keeps := fun _ _ _ ⟨K, hK, c⟩ k => ⟨K, PySem.W.Frag.In.keeps hK k, c⟩
theorem Prg.obsG_eq {p : Prg} {n : Nat} {g : Addr → Option Obj} {s : Shared} (h : ∀ a, g a = s.heap.get? a) : p.obsG n g = (p.hook n).obs s := by
  have e : g = s.heap.get? := funext h
  rw [e] <;> rfl
/-- what the text alone shows -/
def scB (f : FnI) : Bool := (f.scope.kind == .function) && ((f.scope.isCoroutine == false) && ((f.scope.isGenerator == false) && (decide f.N.Nodup && (decide (f.N.take f.ps.length = f.ps) && ((f.ps.all fun x => decide (f.scope.names.lookup x = some .local) || decide (f.scope.names.lookup x = some .cell)) && (f.scope.names.all fun y => !(y.2 == .free)))))))
theorem scB_ok {f : FnI} (h : scB f = true) : FnScope f.N f.ps f.scope := by
  unfold scB at h
  simp only [Bool.and_eq_true, beq_iff_eq, decide_eq_true_iff, List.all_eq_true, Bool.or_eq_true, Bool.not_eq_true', beq_eq_false_iff_ne] at h
  obtain ⟨h1, h2, h3, h4, h5, h6, h7⟩ := h
  exact ⟨h1, h2, h3, h4, h5, h6, h7⟩
structure Prg.Ok (p : Prg) : Prop where
  fns : (p.G.fns.all fun f => plainP f.params f.ps && scB f) = true
  ini : ∀ d ∈ p.ini, ∀ fs, p.G.flds d.cls = fs → IniT p.prog d fs.reverse
  cls : (p.G.cls.all fun c => decide (p.G.flds c.name = c.flds)) = true
  bxo : True
section
variable {p : Prg} {w : World} {K : Frag} {h base : Heap} {mg : Str → Option Value}
theorem Prg.gst (ok : p.Ok) (X : K.In h) (G : h.Ns mainGlobals mg) (c : p.obsK K = p.val) : GSt (gxOf p.G mg) p.G p.prog w K mg base := by
  have cD : He.SaysD p.fa p.fn K := congrArg (fun z : AlP => z.1) c
  have cX : p.ex K = true := congrArg (fun z : AlP => z.2.1) c
  have cI : p.ini.map (fun d => iniW K d.cls) = p.ini.map IniX.val := congrArg (fun z : AlP => z.2.2) c
  have glo : ∀ {x : Str}, He.Fa.glo x ∈ p.fa → mg x = some (.ref (He.ga K x)) := fun hx => He.glo_ok X G (cD.facts hx)
  have fre : ∀ {x : Str}, He.Fa.free x ∈ p.fa → mg x = none := fun hx => He.free_ok X G (cD.facts hx)
  have gloF : ∀ f ∈ p.G.fns, mg f.name = some (.ref (He.ga K f.name)) := fun f hf => glo (by unfold Prg.fa; exact List.mem_append_left _ (List.mem_map.mpr ⟨f, hf, rfl⟩))
  have gloC : ∀ f ∈ p.G.cls, mg f.name = some (.ref (He.ga K f.name)) := fun f hf => glo (by unfold Prg.fa; exact List.mem_append_right _ (List.mem_append_left _ (List.mem_map.mpr ⟨f, hf, rfl⟩)))
  have freB : ∀ x ∈ biNames, mg x = none := fun x hx => fre (by unfold Prg.fa; exact List.mem_append_right _ (List.mem_append_right _ (List.mem_append_left _ (List.mem_map.mpr ⟨x, hx, rfl⟩))))
  have freX : ∀ x ∈ biExc, mg x = none := fun x hx => fre (by unfold Prg.fa; exact List.mem_append_right _ (List.mem_append_right _ (List.mem_append_right _ (List.mem_append_left _ (List.mem_map.mpr ⟨x, hx, rfl⟩)))))
  have freS : mg "super" = none := fre (by unfold Prg.fa; exact List.mem_append_right _ (List.mem_append_right _ (List.mem_append_right _ (List.mem_append_right _ (by simp)))))
  have gloN : ∀ t, p.G.has t = true → mg t = some (.ref (He.ga K t)) := fun t ht => by
    obtain ⟨c0, hc0, rfl, _⟩ := find_name ht
    exact gloC c0 hc0
  unfold Prg.ex at cX
  simp only [Bool.and_eq_true, List.all_eq_true] at cX
  obtain ⟨x1, x2, x3⟩ := cX
  have hfn := List.all_eq_true.mp ok.fns
  refine ⟨freB, fun i f hi => ?_, fun n C hn hC => clsB_ok gloN x1 (fun c hc => (x2 c hc).1) hn hC, fun t ht => ?_, fun X' e1 e2 e3 e4 e5 hr c0 hc0 => ?_, fun x d hd => ?_⟩
  · have hf := List.mem_of_getElem? hi
    have hb := hfn f hf
    rw [Bool.and_eq_true] at hb
    obtain ⟨fd, F⟩ := cD.defs (d := ⟨(f.name, none), f.name, f.name, f.params, f.body, f.scope, [], []⟩) (List.mem_map.mpr ⟨f, hf, rfl⟩)
    exact ⟨_, fd, gloF f hf, F.kp, F, hb.1, scB_ok hb.2⟩
  · unfold GI.clsName at ht
    rw [Bool.or_eq_true] at ht
    rcases ht with ht | ht
    · exact ⟨_, .inl ⟨ht, gloN t ht⟩, .inl ⟨_, rfl⟩⟩
    · have ht := of_decide_eq_true ht
      have ht' := ht
      rw [biExc_bxs] at ht'
      obtain ⟨q, hq, rfl⟩ := List.mem_map.mp ht'
      exact ⟨.type q.2, .inr ⟨ht, freX _ ht, bxs_boot q hq⟩, .inr ⟨_, rfl⟩⟩
  · subst e3 e4
    refine ⟨_, gloC c0 hc0, fun hg hd {e es ta pp pos} ha hs hp => ?_⟩
    have key : ClsMk p.prog X'.K X'.mg (He.ga X'.K c0.name) c0 := ?_
    · exact mk_of (C := He.ga X'.K c0.name) (by rw [e1]; exact key) (gloC c0 hc0) hr hg hd ha hs hp
    obtain ⟨_, y⟩ := x2 c0 hc0
    split at y
    · rename_i hn
      simp only [Bool.and_eq_true, decide_eq_true_iff] at y
      exact .plain hn y.1 y.2.1 y.2.2.1 y.2.2.2
    · obtain ⟨d, hd2, hd3⟩ := List.any_eq_true.mp y
      rw [Bool.and_eq_true, decide_eq_true_iff] at hd3
      have hfl : p.G.flds d.cls = c0.flds := by
        rw [hd3.1]
        exact of_decide_eq_true (List.all_eq_true.mp ok.cls c0 hc0)
      have hw : iniW X'.K d.cls = d.val := by
        have : ∀ {l : List IniX}, l.map (fun d => iniW X'.K d.cls) = l.map IniX.val → d ∈ l → iniW X'.K d.cls = d.val := by
          intro l
          induction l with
          | nil => intro _ h; cases h
          | cons a l ih =>
            intro e h
            rw [List.map_cons, List.map_cons] at e
            injection e with e1 e2
            rcases List.mem_cons.mp h with rfl | h
            · exact e1
            · exact ih e2 h
        exact this cI hd2
      exact ini_of (ok.ini d hd2 _ hfl) hd3.1 freS hw hd3.2
  · have hm : (x, d) ∈ p.G.cons := by
      have : ∀ {l : List (Str × PyData)}, l.lookup x = some d → (x, d) ∈ l := by
        intro l
        induction l with
        | nil => intro h; cases h
        | cons q l ih =>
          obtain ⟨y, e⟩ := q
          intro h
          rw [List.lookup_cons] at h
          cases hx : x == y with
          | true => rw [hx] at h; cases h; rw [beq_iff_eq] at hx; subst hx; exact List.mem_cons_self
          | false => rw [hx] at h; exact List.mem_cons_of_mem _ (ih h)
      exact this hd
    have hb := x3 _ hm
    unfold conB at hb
    split at hb
    · rename_i u hu
      obtain ⟨v, rv, rp⟩ := dataB_ok d u hb
      exact ⟨u, v, PySem.W.mg_of X G hu, rv, rp⟩
    · cases hb
end
end Pv


namespace Pv
open PySem PySem.Spec L2
open PyProof.Rows hiding St
open PySem.W (Frag)

theorem fnok0 {P : Program} {w : World} {K : Frag} {mg : Str → Option Value} {base : Heap} {k : Nat} {f : Addr} {fd : FuncData} {ps : List Str} {sp : Sp} (F : FnOk P w K mg base (L2.CX P w) k f fd ps sp) :
    FnOk P w K mg base CX0 k f fd ps (fun vs H Q _ => sp vs H Q fun _ _ _ => False) := by
  refine ⟨fun vs H Q E h => F.len _ _ _ _ h, fun A outer s H args us vs Q E hr e0 hb r h => ?_⟩
  refine codeAny_mono (F.run A outer s H args us vs Q _ hr e0 hb r h) fun q s' z => ?_
  cases q with
  | ok fl => cases fl <;> exact z
  | error e =>
    obtain ⟨_, _, _, _, _, _, _, _, _, _, _, _, z⟩ := z
    exact z.elim
theorem sqL_rd {K : Frag} {H : Hp} {a : Addr} {xs : List V} (no : ∀ a o, K.lookup a = some o → isLst o = false) (h : SqL K H a xs) : Rd H a (.lst xs) := by
  rcases h with h | ⟨o, its, n, h1, h2, _⟩
  · exact h
  · have := no a o h1
    unfold isLst at this
    rw [h2] at this
    cases this
theorem rps_ints {K : Frag} {F : Addr → Prop} {H : Hp} : ∀ ns : List Int, Rps K F H (ns.map PyData.int) (ns.map V.int)
  | [] => rfl
  | n :: ns => ⟨.int n, _, rfl, rfl, rps_ints ns⟩
theorem Prg.walk {p : Prg} (ok : p.Ok) {wn fu k i n : Nat} {f : FnI} {x : Str} (hi : p.G.fns[i]? = some f) (hps : f.ps = [x]) (law : ∀ ns : List Int, ns.length ≤ n → PhN p.G wn fu k i [.list (ns.map .int)] = .ok (.bool true))
    {w : World} {K : Frag} {h : Heap} {mg : Str → Option Value} {fa : Addr} (X : K.In h) (no : ∀ a o, K.lookup a = some o → isLst o = false) (c : p.obsK K = p.val) (G : h.Ns mainGlobals mg) (hfa : mg f.name = some (.ref fa)) :
    ∃ (K : Frag) (fd : FuncData) (sp : Sp), K.In h ∧ (∀ (s : Shared) (u : Value), BindsTo s fd ⟨[u], []⟩ [(x, u)]) ∧
      (∀ (H : Hp) (a : Addr) (ns : List Int), ns.length ≤ n → Only H → SqL K H a (ns.map V.int) → sp [.ref a] H (fun v _ => v = .bl true) fun _ _ _ => False) ∧
      ∀ base : Heap, K.In base → base.Ns mainGlobals mg → FnOk p.prog w K mg base CX0 (k + 2) fa fd [x] sp := by
  have st : ∀ base, GSt (gxOf p.G mg) p.G p.prog w K mg base := fun base => Prg.gst ok X G c
  obtain ⟨a0, fd, h1, h2, F, h3, S⟩ := (st h).fns i f hi
  rw [hfa] at h1
  cases h1
  refine ⟨K, fd, fun vs H Q _ => spF K (gxOf p.G mg) (PhN p.G wn fu k) 1 i vs H Q fun _ _ _ => False, X, fun s u => ?_, fun H a ns hl _ hS => ?_, fun base _ _ => ?_⟩
  · have b := FunD.bindsA (ps := f.ps) F (fun _ _ _ _ _ _ us hl => bind_plain h3 hl) s [u] (by rw [hps]; rfl)
    rw [hps] at b
    exact b
  · refine ⟨rfl, fun _ => False, [.list (ns.map .int)], fun _ z => z.elim, ⟨.ref a, [], rfl, ⟨a, _, rfl, fun z => z, sqL_rd no hS, rps_ints ns⟩, rfl⟩, ?_⟩
    rw [law ns hl]
    exact fun v H' _ r => r
  · cases k with
    | zero => have := law [] (Nat.zero_le _); cases this
    | succ k =>
      have g := fn_sound (w := w) F S hi (gok (st base) rfl rfl rfl (wn := wn) (fu := fu) k) rfl rfl rfl
      rw [hps] at g
      exact fnok0 g
end Pv


namespace Pv
open PySem PySem.Spec L2
open PyProof.Rows hiding St
/-! reckoning with known data -/
@[simp] theorem eqD_int (a b : Int) : eqD (.int a) (.int b) = .ok (.bool (decide (a = b))) := by
  simp [eqD, shal, PyData.depth, PyData.eqv, Bool.beq_eq_decide_eq]
@[simp] theorem eqD_str (a b : Str) : eqD (.str a) (.str b) = .ok (.bool (decide (a = b))) := by
  simp [eqD, shal, PyData.depth, PyData.eqv, Bool.beq_eq_decide_eq]
@[simp] theorem neD_int (a b : Int) : neD (.int a) (.int b) = .ok (.bool (!decide (a = b))) := by
  simp [neD, shal, PyData.depth, PyData.eqv, Bool.beq_eq_decide_eq]
@[simp] theorem neD_bool (a b : Bool) : neD (.bool a) (.bool b) = .ok (.bool (!decide (a = b))) := by
  cases a <;> cases b <;> rfl
@[simp] theorem eqD_bool (a b : Bool) : eqD (.bool a) (.bool b) = .ok (.bool (decide (a = b))) := by
  cases a <;> cases b <;> rfl
@[simp] theorem ltD_int (a b : Int) : ltD (.int a) (.int b) = .ok (.bool (decide (a < b))) := by
  simp [ltD, cmpOk, shal, PyData.depth, PySem.W.alike, PySem.W.dataLt_int]
@[simp] theorem gtD_int (a b : Int) : gtD (.int a) (.int b) = .ok (.bool (decide (b < a))) := by
  simp [gtD, cmpOk, shal, PyData.depth, PySem.W.alike, PySem.W.dataLt_int]
@[simp] theorem leD_int (a b : Int) : leD (.int a) (.int b) = .ok (.bool (decide (a ≤ b))) := by
  have : (!decide (b < a)) = decide (a ≤ b) := by
    by_cases h : a ≤ b
    · simp [h, Int.not_lt.mpr h]
    · simp [h, Int.not_le.mp h]
  simp [leD, cmpOk, shal, PyData.depth, PySem.W.alike, PySem.W.dataLt_int, this]
@[simp] theorem geD_int (a b : Int) : geD (.int a) (.int b) = .ok (.bool (decide (b ≤ a))) := by
  have : (!decide (a < b)) = decide (b ≤ a) := by
    by_cases h : b ≤ a
    · simp [h, Int.not_lt.mpr h]
    · simp [h, Int.not_le.mp h]
  simp [geD, cmpOk, shal, PyData.depth, PySem.W.alike, PySem.W.dataLt_int, this]
@[simp] theorem isD_none (d : PyData) : isD d .none = .ok (.bool (isNoneD d)) := by cases d <;> rfl
@[simp] theorem isntD_none (d : PyData) : isntD d .none = .ok (.bool (!isNoneD d)) := by cases d <;> rfl
@[simp] theorem addD_int (a b : Int) : addD (.int a) (.int b) = .ok (.int (a + b)) := rfl
@[simp] theorem subD_int (a b : Int) : subD (.int a) (.int b) = .ok (.int (a - b)) := rfl
theorem ixT {ds : List PyData} {i : Int} {d : PyData} (h : atI ds i = some d) : ixD (.tuple ds) (.int i) = .ok d := by
  simp only [ixD, h]
theorem ixL {ds : List PyData} {i : Int} {d : PyData} (h : atI ds i = some d) : ixD (.list ds) (.int i) = .ok d := by
  simp only [ixD, h]
theorem atI_nat {α : Type} {ds : List α} {i : Nat} {d : α} (h : ds[i]? = some d) : atI ds (i : Int) = some d := by
  obtain ⟨hl, _⟩ := List.getElem?_eq_some_iff.mp h
  unfold atI ixN
  rw [if_pos (Int.natCast_nonneg i), if_pos (by omega)]
  simpa using h
theorem ixT_nat {ds : List PyData} {i : Nat} {d : PyData} (h : ds[i]? = some d) : ixD (.tuple ds) (.int (i : Int)) = .ok d := ixT (atI_nat h)
theorem ixL_nat {ds : List PyData} {i : Nat} {d : PyData} (h : ds[i]? = some d) : ixD (.list ds) (.int (i : Int)) = .ok d := ixL (atI_nat h)
@[simp] theorem ixT_0 (a : PyData) (ds : List PyData) : ixD (.tuple (a :: ds)) (.int 0) = .ok a := ixT_nat (i := 0) rfl
@[simp] theorem ixT_1 (a b : PyData) (ds : List PyData) : ixD (.tuple (a :: b :: ds)) (.int 1) = .ok b := ixT_nat (i := 1) rfl
@[simp] theorem ixL_0 (a : PyData) (ds : List PyData) : ixD (.list (a :: ds)) (.int 0) = .ok a := ixL_nat (i := 0) rfl
@[simp] theorem ixL_1 (a b : PyData) (ds : List PyData) : ixD (.list (a :: b :: ds)) (.int 1) = .ok b := ixL_nat (i := 1) rfl
/-! loops -/
/-- a comprehension that reckons f of those that p takes -/
theorem compL_map {g : Tg} {t : CT} {e : CE} {ρ : En} {p : PyData → Bool} {f : PyData → PyData} : ∀ {ds : List PyData}, (∀ d ∈ ds, ∃ ρ', tgSet g d ρ = .ok ρ' ∧ t ρ' = .ok (p d) ∧ (p d = true → e ρ' = .ok (f d))) → compL g t e ρ ds = .ok ((ds.filter p).map f)
  | [], _ => rfl
  | d :: ds, h => by
    obtain ⟨ρ', h1, h2, h3⟩ := h d List.mem_cons_self
    have ih := compL_map (g := g) (t := t) (e := e) (ρ := ρ) (p := p) (f := f) (ds := ds) fun d hd => h d (List.mem_cons_of_mem _ hd)
    unfold compL
    rw [h1, R.bind_ok, h2, R.bind_ok]
    cases hp : p d with
    | true => rw [if_pos rfl, h3 hp, R.bind_ok, ih, R.bind_ok, List.filter_cons, hp, if_pos rfl, List.map_cons]
    | false => rw [if_neg (by simp), ih, List.filter_cons, hp, if_neg (by simp)]
theorem compL_all {g : Tg} {e : CE} {ρ : En} {f : PyData → PyData} {ds : List PyData} (h : ∀ d ∈ ds, ∃ ρ', tgSet g d ρ = .ok ρ' ∧ e ρ' = .ok (f d)) : compL g tYesC e ρ ds = .ok (ds.map f) := by
  have := compL_map (g := g) (t := tYesC) (e := e) (ρ := ρ) (p := fun _ => true) (f := f) (ds := ds) fun d hd => by
    obtain ⟨ρ', h1, h2⟩ := h d hd
    exact ⟨ρ', h1, rfl, fun _ => h2⟩
  rw [this, List.filter_eq_self.mpr (fun _ _ => rfl)]
/-- a loop, turn by turn -/
theorem forL_steps {g : Tg} {b : CS} {S : List PyData → En} : ∀ {ds done : List PyData}, (∀ done d rest, done ++ d :: rest = done ++ d :: rest → ∃ ρ', tgSet g d (S done) = .ok ρ' ∧ b ρ' = .nx (S (done ++ [d]))) → forL g b ds (S done) = .nx (S (done ++ ds))
  | [], done, _ => by simp [forL]
  | d :: ds, done, h => by
    obtain ⟨ρ', h1, h2⟩ := h done d ds rfl
    unfold forL
    rw [h1]
    show (match b ρ' with | .nx ρ' => forL g b ds ρ' | .ct ρ' => forL g b ds ρ' | .bk ρ' => .nx ρ' | r => r) = _
    rw [h2]
    show forL g b ds (S (done ++ [d])) = _
    rw [forL_steps h]
    simp

/-! the makers, applied -/
section
variable (ρ : En)
@[simp] theorem cVar_ap (i : Nat) : cVar i ρ = (match ρ[i]? with | some (.dat d false) => .ok d | _ => .bad) := Eq.symm (Eq.symm rfl)
@[simp] theorem cVarB_ap (i : Nat) : cVarB i ρ = (match ρ[i]? with | some (.dat d _) => .ok d | _ => .bad) := Eq.symm (Eq.symm rfl)
@[simp] theorem cK_ap (d : PyData) : cK d ρ = .ok d := Eq.symm (Eq.symm rfl)
@[simp] theorem c1_ap (g : PyData → R PyData) (a : CE) : c1 g a ρ = (a ρ).bind fun x => quiet (g x) := Eq.symm (Eq.symm rfl)
@[simp] theorem c2_ap (g : PyData → PyData → R PyData) (a b : CE) : c2 g a b ρ = (a ρ).bind fun x => (b ρ).bind fun y => quiet (g x y) := Eq.symm (Eq.symm rfl)
@[simp] theorem cMe_ap (g : PyData → PyData → R PyData) (a b : CE) : cMe g a b ρ = (a ρ).bind fun x => match x with | .list ds => (b ρ).bind fun y => quiet (g (.list ds) y) | _ => .bad := Eq.symm (Eq.symm rfl)
@[simp] theorem cCh_ap (g h : PyData → PyData → R PyData) (a b c : CE) : cCh g h a b c ρ = (a ρ).bind fun x => (b ρ).bind fun y => (quiet (g x y)).bind fun z => match z with | .bool true => (c ρ).bind fun w => quiet (h y w) | .bool false => .ok (.bool false) | _ => .bad := Eq.symm (Eq.symm rfl)
@[simp] theorem cTup_ap (as : List CE) : cTup as ρ = (cAll as ρ).bind fun ds => if ds.length ≤ 1000 then .ok (.tuple ds) else .bad := Eq.symm (Eq.symm rfl)
@[simp] theorem cLst_ap (as : List CE) : cLst as ρ = (cAll as ρ).bind fun ds => if ds.length ≤ 1000 then .ok (.list ds) else .bad := Eq.symm (Eq.symm rfl)
@[simp] theorem cAll_nil : cAll [] ρ = .ok [] := Eq.symm (Eq.symm rfl)
@[simp] theorem cAll_cons (a : CE) (as : List CE) : cAll (a :: as) ρ = (a ρ).bind fun d => (cAll as ρ).bind fun ds => .ok (d :: ds) := Eq.symm (Eq.symm rfl)
@[simp] theorem cTst_ap (a : CE) : cTst a ρ = (a ρ).bind fun d => quiet (isB d) := Eq.symm (Eq.symm rfl)
@[simp] theorem cNotT_ap (t : CT) : cNotT t ρ = (t ρ).bind fun b => .ok (!b) := Eq.symm (Eq.symm rfl)
@[simp] theorem cAndT_ap (t u : CT) : cAndT t u ρ = (t ρ).bind fun b => if b = true then u ρ else .ok false := Eq.symm (Eq.symm rfl)
@[simp] theorem cOrT_ap (t u : CT) : cOrT t u ρ = (t ρ).bind fun b => if b = true then .ok true else u ρ := Eq.symm (Eq.symm rfl)
@[simp] theorem cNotV_ap (a : CE) : cNotV a ρ = (a ρ).bind fun d => (quiet (isB d)).bind fun b => .ok (.bool (!b)) := Eq.symm (Eq.symm rfl)
@[simp] theorem cAndV_ap (a b : CE) : cAndV a b ρ = (a ρ).bind fun d => (quiet (isB d)).bind fun k => if k = true then b ρ else .ok (.bool false) := Eq.symm (Eq.symm rfl)
@[simp] theorem cOrV_ap (a b : CE) : cOrV a b ρ = (a ρ).bind fun d => (quiet (isB d)).bind fun k => if k = true then .ok (.bool true) else b ρ := Eq.symm (Eq.symm rfl)
@[simp] theorem cIfE_ap (t : CT) (a b : CE) : cIfE t a b ρ = (t ρ).bind fun k => if k = true then a ρ else b ρ := Eq.symm (Eq.symm rfl)
@[simp] theorem optI_none : optI none ρ = .ok none := Eq.symm (Eq.symm rfl)
@[simp] theorem optI_some (c : CE) : optI (some c) ρ = (c ρ).bind fun d => match d with | .int i => .ok (some i) | _ => .bad := Eq.symm (Eq.symm rfl)
@[simp] theorem cSl_ap (a : CE) (lo hi : Option CE) : cSl a lo hi ρ = (a ρ).bind fun d => (optI lo ρ).bind fun l => (optI hi ρ).bind fun h => slD d l h := Eq.symm (Eq.symm rfl)
@[simp] theorem cCall_ap (Φ : Ph) (f : Nat) (as : List CE) (os : List (Option Nat)) : cCall Φ f as os ρ = (cAll as ρ).bind fun ds => guardF (ownAny os ρ) (Φ f ds) := Eq.symm (Eq.symm rfl)
@[simp] theorem cComp_ap (it : CI) (vs : List Nat) (g : Tg) (t : CT) (e : CE) : cComp it vs g t e ρ = (it ρ).bind fun ds => if vs.any (ownAt ρ) = true then .bad else (quiet (compL g t e (wipeE ρ vs) ds)).bind fun ys => .ok (.list ys) := Eq.symm (Eq.symm rfl)
@[simp] theorem cItE_ap (a : CE) : cItE a ρ = (a ρ).bind fun d => quiet (itD d) := Eq.symm (Eq.symm rfl)
@[simp] theorem cRange1_ap (a : CE) : cRange1 a ρ = (a ρ).bind fun d => (quiet (intB d)).bind fun i => if i ≤ 16000000 then .ok (rangeL 0 i) else .bad := Eq.symm (Eq.symm rfl)
@[simp] theorem cRange2_ap (a b : CE) : cRange2 a b ρ = (a ρ).bind fun d => (b ρ).bind fun e => (quiet (intB d)).bind fun i => (quiet (intB e)).bind fun j => if j - i ≤ 16000000 then .ok (rangeL i j) else .bad := Eq.symm (Eq.symm rfl)
@[simp] theorem cRgS_ap (l : Bool) (a : CE) : cRgS l a ρ = (cRange1 a ρ).bind fun ds => .ok (if l = true then .list ds else .tuple ds) := Eq.symm (Eq.symm rfl)
@[simp] theorem disow_ap (is : List Nat) (c : CS) : disow is c ρ = c (disL is ρ) := Eq.symm (Eq.symm rfl)
@[simp] theorem sSet_ap (i : Nat) (fr : Bool) (c : CE) : sSet i fr c ρ = (match c ρ with | .ok d => .nx (ρ.set i (.dat d (fr && isL d))) | .exc n ds => .exc n ds ρ | .bad => .bad) := Eq.symm (Eq.symm rfl)
@[simp] theorem sTg_ap (g : Tg) (c : CE) : sTg g c ρ = (match c ρ with | .ok d => (match tgSet g d ρ with | .ok ρ' => .nx ρ' | _ => .bad) | .exc n ds => .exc n ds ρ | .bad => .bad) := Eq.symm (Eq.symm rfl)
@[simp] theorem sRet_ap (c : CE) : sRet c ρ = (match c ρ with | .ok d => .rt d | .exc n ds => .exc n ds ρ | .bad => .bad) := Eq.symm (Eq.symm rfl)
@[simp] theorem sDrop_ap (c : CE) : sDrop c ρ = (match c ρ with | .ok _ => .nx ρ | .exc n ds => .exc n ds ρ | .bad => .bad) := Eq.symm (Eq.symm rfl)
@[simp] theorem sApp_ap (i : Nat) (c : CE) : sApp i c ρ = (match ρ[i]? with
  | some (.dat (.list ds) true) => (match c ρ with
    | .ok d => if ds.length < 16000000 then .nx (ρ.set i (.dat (.list (ds ++ [d])) true)) else .bad
    | .exc n es => .exc n es ρ
    | .bad => .bad)
  | _ => .bad) := Eq.symm (Eq.symm rfl)
@[simp] theorem sPut_ap (i : Nat) (cj c : CE) : sPut i cj c ρ = (match ρ[i]? with
  | some (.dat (.list ds) true) => (match c ρ with
    | .ok d => (match cj ρ with
      | .ok (.int j) => (match ixN ds.length j with
        | some n => .nx (ρ.set i (.dat (.list (ds.set n d)) true))
        | none => .bad)
      | _ => .bad)
    | .exc n es => .exc n es ρ
    | .bad => .bad)
  | _ => .bad) := Eq.symm (Eq.symm rfl)
@[simp] theorem sSeq_ap (a b : CS) : sSeq a b ρ = (match a ρ with | .nx ρ' => b ρ' | r => r) := Eq.symm (Eq.symm rfl)
@[simp] theorem sIf_ap (t : CT) (a b : CS) : sIf t a b ρ = (match t ρ with | .ok true => a ρ | .ok false => b ρ | .exc n ds => .exc n ds ρ | .bad => .bad) := Eq.symm (Eq.symm rfl)
@[simp] theorem sFor_ap (ci : CI) (g : Tg) (b : CS) : sFor ci g b ρ = (match ci ρ with | .ok ds => forL g b ds ρ | .exc n ds => .exc n ds ρ | .bad => .bad) := Eq.symm (Eq.symm rfl)
@[simp] theorem sNx_ap : sNx ρ = .nx ρ := Eq.symm (Eq.symm rfl)
@[simp] theorem sBk_ap : sBk ρ = .bk ρ := Eq.symm (Eq.symm rfl)
@[simp] theorem sCt_ap : sCt ρ = .ct ρ := Eq.symm (Eq.symm rfl)
@[simp] theorem sRetN_ap : sRetN ρ = .rt .none := Eq.symm (Eq.symm rfl)
@[simp] theorem sRaise_ap (G : GI) (x : Str) (cs : List CE) : sRaise G x cs ρ = (match cAll cs ρ with
  | .ok ds => if G.flds x = [] then .exc x [] ρ else if ds.length = (G.flds x).length then .exc x ds.reverse ρ else .bad
  | .exc n ds => .exc n ds ρ
  | .bad => .bad) := Eq.symm (Eq.symm rfl)
@[simp] theorem sTry_ap (G : GI) (b : CS) (hs : List HdC) : sTry G b hs ρ = (match b ρ with | .exc n ds ρ' => tryH G hs n ds ρ' | r => r) := Eq.symm (Eq.symm rfl)
@[simp] theorem cIsE_ap (G : GI) (i : Nat) (ts : List Str) : cIsE G i ts ρ = (match ρ[i]? with | some (.exn n _) => if G.has n = true then .ok (.bool (ts.any fun t => decide (t ∈ G.ups n))) else .bad | _ => .bad) := Eq.symm (Eq.symm rfl)
@[simp] theorem cFld_ap (G : GI) (i : Nat) (f : Str) : cFld G i f ρ = (match ρ[i]? with
  | some (.exn n ds) => if G.has n = true ∧ f ∈ G.flds n then (match ((G.flds n).zip ds).lookup f with | some d => .ok d | none => .bad) else .bad
  | _ => .bad) := Eq.symm (Eq.symm rfl)
end
@[simp] theorem quiet_ok {α : Type} (d : α) : quiet (R.ok d) = .ok d := rfl
@[simp] theorem quiet_bad {α : Type} : quiet (R.bad : R α) = .bad := rfl
@[simp] theorem forL_nil (g : Tg) (b : CS) (ρ : En) : forL g b [] ρ = .nx ρ := Eq.symm (Eq.symm rfl)
@[simp] theorem forL_cons (g : Tg) (b : CS) (d : PyData) (ds : List PyData) (ρ : En) : forL g b (d :: ds) ρ = (match tgSet g d ρ with
    | .ok ρ1 => (match b ρ1 with
      | .nx ρ' => forL g b ds ρ'
      | .ct ρ' => forL g b ds ρ'
      | .bk ρ' => .nx ρ'
      | r => r)
    | _ => .bad) := Eq.symm (Eq.symm rfl)
end Pv


namespace Pv
open PySem PySem.Spec L2
open PyProof.Rows hiding St
/-! comprehensions and loops over a list of known form -/
theorem compL_on {α : Type} (m : α → PyData) (p : α → Bool) (f : α → PyData) {i : Nat} {t : CT} {e : CE} {ρ : En} {l : List α} (h : ∀ a ∈ l, t (ρ.set i (.dat (m a) false)) = .ok (p a) ∧ (p a = true → e (ρ.set i (.dat (m a) false)) = .ok (f a))) : compL (.one i) t e ρ (l.map m) = .ok ((l.filter p).map f) := by
  induction l with
  | nil => rfl
  | cons a l ih =>
    have ih := ih fun b hb => h b (List.mem_cons_of_mem _ hb)
    obtain ⟨h2, h3⟩ := h a List.mem_cons_self
    show ((tgSet (.one i) (m a) ρ).bind fun ρ' => (t ρ').bind fun b => if b = true then (e ρ').bind fun y => (compL (.one i) t e ρ (l.map m)).bind fun ys => .ok (y :: ys) else compL (.one i) t e ρ (l.map m)) = _
    show ((t (ρ.set i (.dat (m a) false))).bind fun b => if b = true then (e (ρ.set i (.dat (m a) false))).bind fun y => (compL (.one i) t e ρ (l.map m)).bind fun ys => .ok (y :: ys) else compL (.one i) t e ρ (l.map m)) = _
    rw [h2, R.bind_ok]
    cases hp : p a with
    | true => rw [if_pos rfl, h3 hp, R.bind_ok, ih, R.bind_ok, List.filter_cons, hp, if_pos rfl, List.map_cons]
    | false => rw [if_neg (by simp), ih, List.filter_cons, hp, if_neg (by simp)]
theorem compL_on_all {α : Type} (m : α → PyData) (f : α → PyData) {i : Nat} {e : CE} {ρ : En} {l : List α} (h : ∀ a ∈ l, e (ρ.set i (.dat (m a) false)) = .ok (f a)) : compL (.one i) tYesC e ρ (l.map m) = .ok (l.map f) := by
  rw [compL_on m (fun _ => true) f fun a ha => ⟨rfl, fun _ => h a ha⟩, List.filter_eq_self.mpr (fun _ _ => rfl)]
/-- a loop with an invariant over what is done -/
theorem forL_inv {α : Type} (m : α → PyData) (I : List α → En → Prop) {i : Nat} {b : CS} (l : List α) (h : ∀ done a rest ρ, l = done ++ a :: rest → I done ρ → ∃ ρ', (b (ρ.set i (.dat (m a) false)) = .nx ρ' ∨ b (ρ.set i (.dat (m a) false)) = .ct ρ') ∧ I (done ++ [a]) ρ') {ρ : En} (h0 : I [] ρ) : ∃ ρ', forL (.one i) b (l.map m) ρ = .nx ρ' ∧ I l ρ' := by
  have go : ∀ (rest done : List α) (ρ : En), l = done ++ rest → I done ρ → ∃ ρ', forL (.one i) b (rest.map m) ρ = .nx ρ' ∧ I l ρ' := by
    intro rest
    induction rest with
    | nil => intro done ρ e hI; exact ⟨ρ, rfl, by rw [e, List.append_nil]; exact hI⟩
    | cons a rest ih =>
      intro done ρ e hI
      obtain ⟨ρ', hb, hI'⟩ := h done a rest ρ e hI
      obtain ⟨ρ2, h1, h2⟩ := ih (done ++ [a]) ρ' (by rw [e]; simp) hI'
      refine ⟨ρ2, ?_, h2⟩
      rw [List.map_cons, forL_cons]
      show (match b (ρ.set i (.dat (m a) false)) with | .nx ρ' => forL (.one i) b (rest.map m) ρ' | .ct ρ' => forL (.one i) b (rest.map m) ρ' | .bk ρ' => .nx ρ' | r => r) = _
      rcases hb with hb | hb <;> rw [hb] <;> exact h1
  exact go l [] ρ rfl h0
/-- a loop that leaves the rest as it is -/
theorem forL_same {α : Type} (m : α → PyData) (S : Sl → En) {i : Nat} {b : CS} (l : List α) (hS : ∀ x y, (S x).set i y = S y) (h : ∀ a ∈ l, b (S (.dat (m a) false)) = .nx (S (.dat (m a) false))) (x : Sl) : ∃ y, forL (.one i) b (l.map m) (S x) = .nx (S y) := by
  obtain ⟨ρ', h1, y, h2⟩ := forL_inv m (fun _ ρ => ∃ y, ρ = S y) (i := i) (b := b) l (by
    rintro done a rest ρ e ⟨y, rfl⟩
    refine ⟨S (.dat (m a) false), .inl ?_, _, rfl⟩
    rw [hS]; exact h a (by rw [e]; simp)) (ρ := S x) ⟨x, rfl⟩
  exact ⟨y, h2 ▸ h1⟩
/-! ranges, slices -/
def natD (k : Nat) : PyData := .int k
theorem rangeL_nat (n : Nat) : rangeL 0 (n : Int) = (List.range n).map natD := by
  unfold rangeL
  simp [natD]
theorem intB_nat {n : Nat} (hn : n ≤ 16000000) : intB (.int (n : Int)) = .ok (n : Int) := by
  have z1 : -(2 ^ 62) ≤ (n : Int) := by omega
  have z2 : (n : Int) < 2 ^ 62 := by omega
  unfold intB
  simp only [z1, z2, and_self, if_true]
theorem cRange1_nat {a : CE} {ρ : En} {n : Nat} (h : a ρ = .ok (.int n)) (hn : n ≤ 16000000) : cRange1 a ρ = .ok ((List.range n).map natD) := by
  rw [cRange1_ap, h, R.bind_ok]
  have z1 : -(2 ^ 62) ≤ (n : Int) := by omega
  have z2 : (n : Int) < 2 ^ 62 := by omega
  have e : intB (.int (n : Int)) = .ok (n : Int) := by
    unfold intB
    simp only [z1, z2, and_self, if_true]
  rw [e]
  show (if (n : Int) ≤ 16000000 then R.ok (rangeL 0 n) else .bad) = _
  rw [if_pos (by omega), rangeL_nat]
theorem cutD_to (ds : List PyData) (n : Nat) : cutD ds none (some (n : Int)) = ds.take n := by
  unfold cutD
  rw [HT.sIx_nat, HT.sIx_none]
  simp [Nat.min_comm]
theorem cutD_from (ds : List PyData) (n : Nat) : cutD ds (some (n : Int)) none = ds.drop n := by
  unfold cutD
  rw [HT.sIx_nat, HT.sIx_none]
  by_cases h : n ≤ ds.length
  · rw [Nat.min_eq_left h]
    exact List.take_of_length_le (by simp)
  · rw [Nat.min_eq_right (by omega)]
    simp
    omega
theorem cutD_last (ds : List PyData) (n : Nat) (hn : 0 < n) (h : n ≤ ds.length) : cutD ds (some (-(n : Int))) none = ds.drop (ds.length - n) := by
  unfold cutD
  rw [HT.sIx_none]
  have e : HT.sIx ds.length 0 (some (-(n : Int))) = ds.length - n := by
    unfold HT.sIx
    simp only
    rw [if_pos (by omega)]
    omega
  rw [e]
  exact List.take_of_length_le (by simp)
theorem addT (a b : List PyData) (h : a.length + b.length ≤ sizeLine) : addD (.tuple a) (.tuple b) = .ok (.tuple (a ++ b)) := if_pos h
theorem addL (a b : List PyData) (h : a.length + b.length ≤ sizeLine) : addD (.list a) (.list b) = .ok (.list (a ++ b)) := if_pos h
theorem memD_int (n : Int) (l : List Int) : memD (.int n) (l.map .int) = decide (n ∈ l) := by
  unfold memD
  induction l with
  | nil => rfl
  | cons a l ih =>
    rw [List.map_cons, List.any_cons, ih]
    simp only [PyData.eqv, List.mem_cons]
    by_cases h : a = n
    · simp [h]
    · have : ¬ n = a := fun e => h e.symm
      simp [h, this]
theorem notInD_int (n : Int) (l : List Int) : notInD (.int n) (.tuple (l.map .int)) = .ok (.bool (!decide (n ∈ l))) := by
  show ((if (PyData.int n).depth ≤ 60 then R.ok (memD (.int n) (l.map .int)) else .bad).bind _) = _
  rw [if_pos (by simp [PyData.depth]), memD_int]
  rfl
theorem notInD_int_l (n : Int) (l : List Int) : notInD (.int n) (.list (l.map .int)) = .ok (.bool (!decide (n ∈ l))) := notInD_int n l
theorem inD_int (n : Int) (l : List Int) : inD (.int n) (.tuple (l.map .int)) = .ok (.bool (decide (n ∈ l))) := by
  show ((if (PyData.int n).depth ≤ 60 then R.ok (memD (.int n) (l.map .int)) else .bad).bind _) = _
  rw [if_pos (by simp [PyData.depth]), memD_int]
  rfl
theorem inD_int_l (n : Int) (l : List Int) : inD (.int n) (.list (l.map .int)) = .ok (.bool (decide (n ∈ l))) := inD_int n l
theorem indexD_int (n : Int) (l : List Int) (h : n ∈ l) : indexD (.list (l.map .int)) (.int n) = .ok (.int (l.idxOf n : Nat)) := by
  show (if (PyData.int n).depth ≤ 60 then _ else R.bad) = _
  have e : (l.map PyData.int).findIdx? (fun z => PyData.eqv z (.int n)) = some (l.idxOf n) := by
    rw [List.findIdx?_map, List.idxOf]
    rw [List.findIdx?_eq_some_iff_findIdx_eq]
    have e2 : ((fun z => PyData.eqv z (.int n)) ∘ PyData.int) = fun x => x == n := rfl
    rw [e2]
    exact ⟨List.findIdx_lt_length_of_exists ⟨n, h, by simp⟩, rfl⟩
  rw [e]
  exact if_pos (by simp [PyData.depth])
/-! strictly ascending numbers -/
abbrev SAsc (l : List Int) : Prop := l.Pairwise (· < ·)
theorem sortD_asc (l : List Int) (h : SAsc l) : sortD (.list (l.map .int)) = .ok (.list (l.map .int)) := by
  have h1 : alikeB (l.map PyData.int) = true := by
    unfold alikeB
    simp [PySem.W.alike]
  have h2 : sortB (l.map PyData.int) = true := by
    unfold sortB
    simp
  have h3 : (l.map PyData.int).all (fun d => decide (d.depth ≤ 60)) = true := by simp [PyData.depth]
  show (if _ then R.ok (PyData.list (sortedL (l.map .int))) else .bad) = _
  rw [if_pos ⟨h1, h2, h3⟩]
  have : sortedL (l.map PyData.int) = l.map .int := by
    unfold sortedL
    apply List.mergeSort_of_pairwise
    rw [List.pairwise_map]
    refine h.imp fun {a b} hab => ?_
    have hd := PySem.W.dataLt_int b a
    have : PySem.W.dataLe false (fun d => d) (PyData.int a) (PyData.int b) = !PySem.W.dataLt (.int b) (.int a) := by
      rfl
    rw [this, hd]
    simp
    omega
  rw [this]
end Pv


/-! the makers' rules, for simp everywhere -/
namespace Pv
open PySem PySem.Spec L2
open PyProof.Rows hiding St
section
variable (ρ : En)
@[simp] theorem runC_s (c : CS) (N ps : List Str) (ds : List PyData) : runC c N ps ds = if ds.length = ps.length then endC (c (startE N ds)) else .bad := Eq.symm (Eq.symm rfl)
@[simp] theorem endC_rt (d : PyData) : endC (.rt d) = .ok d := Eq.symm (Eq.symm rfl)
@[simp] theorem endC_nx : endC (.nx ρ) = .ok .none := Eq.symm (Eq.symm rfl)
@[simp] theorem endC_exc (n : Str) (es : List PyData) : endC (.exc n es ρ) = .exc n es := Eq.symm (Eq.symm rfl)
@[simp] theorem endC_bad : endC .bad = .bad := Eq.symm (Eq.symm rfl)
@[simp] theorem startE_s (N : List Str) (ds : List PyData) : startE N ds = ds.map (fun d => .dat d false) ++ List.replicate (N.length - ds.length) .no := Eq.symm (Eq.symm rfl)
@[simp] theorem disL_nil : disL [] ρ = ρ := Eq.symm (Eq.symm rfl)
@[simp] theorem disL_cons (i : Nat) (is : List Nat) : disL (i :: is) ρ = disL is (disE i ρ) := Eq.symm (Eq.symm rfl)
@[simp] theorem disE_s (i : Nat) : disE i ρ = (match ρ[i]? with | some (.dat d true) => ρ.set i (.dat d false) | _ => ρ) := Eq.symm (Eq.symm rfl)
@[simp] theorem isB_bool (b : Bool) : isB (.bool b) = .ok b := Eq.symm (Eq.symm rfl)
@[simp] theorem isL_list (ds : List PyData) : isL (.list ds) = true := Eq.symm (Eq.symm rfl)
@[simp] theorem isL_tuple (ds : List PyData) : isL (.tuple ds) = false := Eq.symm (Eq.symm rfl)
@[simp] theorem isL_int (i : Int) : isL (.int i) = false := Eq.symm (Eq.symm rfl)
@[simp] theorem isL_str (i : Str) : isL (.str i) = false := Eq.symm (Eq.symm rfl)
@[simp] theorem isL_bool (i : Bool) : isL (.bool i) = false := Eq.symm (Eq.symm rfl)
@[simp] theorem isL_none : isL .none = false := Eq.symm (Eq.symm rfl)
@[simp] theorem isiD_s (ts : List String) (d : PyData) : isiD ts d = .ok (.bool (ts.any fun t => (tyD d == t) || (t == "int" && tyD d == "bool"))) := Eq.symm (Eq.symm rfl)
@[simp] theorem tyD_none : tyD .none = "NoneType" := Eq.symm (Eq.symm rfl)
@[simp] theorem tyD_bool (b : Bool) : tyD (.bool b) = "bool" := Eq.symm (Eq.symm rfl)
@[simp] theorem tyD_int (b : Int) : tyD (.int b) = "int" := Eq.symm (Eq.symm rfl)
@[simp] theorem tyD_str (b : Str) : tyD (.str b) = "str" := Eq.symm (Eq.symm rfl)
@[simp] theorem tyD_list (b : List PyData) : tyD (.list b) = "list" := Eq.symm (Eq.symm rfl)
@[simp] theorem tyD_tuple (b : List PyData) : tyD (.tuple b) = "tuple" := Eq.symm (Eq.symm rfl)
@[simp] theorem tyD_dict (b) : tyD (.dict b) = "dict" := Eq.symm (Eq.symm rfl)
@[simp] theorem ownAt_s (i : Nat) : ownAt ρ i = (match ρ[i]? with | some (.dat _ true) => true | _ => false) := Eq.symm (Eq.symm rfl)
@[simp] theorem ownAny_nil : ownAny [] ρ = false := Eq.symm (Eq.symm rfl)
@[simp] theorem ownAny_none (r : List (Option Nat)) : ownAny (none :: r) ρ = ownAny r ρ := by unfold ownAny; rw [List.any_cons]; rfl
@[simp] theorem ownAny_some (i : Nat) (r : List (Option Nat)) : ownAny (some i :: r) ρ = (ownAt ρ i || ownAny r ρ) := by unfold ownAny; rw [List.any_cons]
@[simp] theorem guardF_no (r : R PyData) : guardF false r = r := by cases r <;> rfl
@[simp] theorem guardF_ok (d : PyData) : guardF true (.ok d) = if flat d = true then .ok d else .bad := Eq.symm (Eq.symm rfl)
@[simp] theorem guardF_exc (n : Str) (es : List PyData) : guardF true (.exc n es) = if flat.flats es = true then .exc n es else .bad := Eq.symm (Eq.symm rfl)
@[simp] theorem guardF_bad : guardF true (.bad) = .bad := Eq.symm (Eq.symm rfl)
@[simp] theorem setAll_nil : setAll [] [] ρ = some ρ := Eq.symm (Eq.symm rfl)
@[simp] theorem setAll_cons (i : Nat) (is : List Nat) (d : PyData) (ds : List PyData) : setAll (i :: is) (d :: ds) ρ = setAll is ds (ρ.set i (.dat d false)) := Eq.symm (Eq.symm rfl)
@[simp] theorem tgSet_one (i : Nat) (d : PyData) : tgSet (.one i) d ρ = .ok (ρ.set i (.dat d false)) := Eq.symm (Eq.symm rfl)
@[simp] theorem tgSet_tup (is : List Nat) (ds : List PyData) : tgSet (.tup is) (.tuple ds) ρ = (match setAll is ds ρ with | some ρ' => .ok ρ' | none => .bad) := Eq.symm (Eq.symm rfl)
@[simp] theorem wipeE_nil : wipeE ρ [] = ρ := Eq.symm (Eq.symm rfl)
@[simp] theorem wipeE_cons (v : Nat) (vs : List Nat) : wipeE ρ (v :: vs) = (wipeE ρ vs).set v .no := Eq.symm (Eq.symm rfl)
end
@[simp] theorem itD_list (ds : List PyData) : itD (.list ds) = .ok ds := Eq.symm (Eq.symm rfl)
@[simp] theorem itD_tuple (ds : List PyData) : itD (.tuple ds) = .ok ds := Eq.symm (Eq.symm rfl)
@[simp] theorem lenD_list (ds : List PyData) : lenD (.list ds) = .ok (.int ds.length) := Eq.symm (Eq.symm rfl)
@[simp] theorem lenD_tuple (ds : List PyData) : lenD (.tuple ds) = .ok (.int ds.length) := Eq.symm (Eq.symm rfl)
@[simp] theorem lenD_str (z : Str) : lenD (.str z) = if z.length ≤ sizeLine then .ok (.int z.length) else .bad := Eq.symm (Eq.symm rfl)
@[simp] theorem listD_list (ds : List PyData) : listD (.list ds) = .ok (.list ds) := Eq.symm (Eq.symm rfl)
@[simp] theorem listD_tuple (ds : List PyData) : listD (.tuple ds) = .ok (.list ds) := Eq.symm (Eq.symm rfl)
@[simp] theorem tupleD_list (ds : List PyData) : tupleD (.list ds) = .ok (.tuple ds) := Eq.symm (Eq.symm rfl)
@[simp] theorem tupleD_tuple (ds : List PyData) : tupleD (.tuple ds) = .ok (.tuple ds) := Eq.symm (Eq.symm rfl)
@[simp] theorem intD_int (i : Int) : intD (.int i) = .ok (.int i) := Eq.symm (Eq.symm rfl)
@[simp] theorem intD_bool (b : Bool) : intD (.bool b) = .ok (.int (if b = true then 1 else 0)) := Eq.symm (Eq.symm rfl)
@[simp] theorem negD_int (i : Int) : negD (.int i) = .ok (.int (-i)) := Eq.symm (Eq.symm rfl)
@[simp] theorem revD_list (ds : List PyData) : revD (.list ds) = .ok (.list ds.reverse) := Eq.symm (Eq.symm rfl)
@[simp] theorem revD_tuple (ds : List PyData) : revD (.tuple ds) = .ok (.tuple ds.reverse) := Eq.symm (Eq.symm rfl)
@[simp] theorem slD_list (ds : List PyData) (lo hi : Option Int) : slD (.list ds) lo hi = .ok (.list (cutD ds lo hi)) := Eq.symm (Eq.symm rfl)
@[simp] theorem slD_tuple (ds : List PyData) (lo hi : Option Int) : slD (.tuple ds) lo hi = .ok (.tuple (cutD ds lo hi)) := Eq.symm (Eq.symm rfl)
@[simp] theorem flat_none : flat .none = true := Eq.symm (Eq.symm rfl)
@[simp] theorem flat_bool (b : Bool) : flat (.bool b) = true := Eq.symm (Eq.symm rfl)
@[simp] theorem flat_int (b : Int) : flat (.int b) = true := Eq.symm (Eq.symm rfl)
@[simp] theorem flat_str (b : Str) : flat (.str b) = true := Eq.symm (Eq.symm rfl)
@[simp] theorem flat_list (b : List PyData) : flat (.list b) = false := Eq.symm (Eq.symm rfl)
@[simp] theorem flat_tuple (b : List PyData) : flat (.tuple b) = flat.flats b := Eq.symm (Eq.symm rfl)
@[simp] theorem flats_nil : flat.flats [] = true := Eq.symm (Eq.symm rfl)
@[simp] theorem flats_cons (d : PyData) (ds : List PyData) : flat.flats (d :: ds) = (flat d && flat.flats ds) := Eq.symm (Eq.symm rfl)
@[simp] theorem isNoneD_none : isNoneD .none = true := Eq.symm (Eq.symm rfl)
@[simp] theorem isNoneD_int (i : Int) : isNoneD (.int i) = false := Eq.symm (Eq.symm rfl)
@[simp] theorem isNoneD_bool (i : Bool) : isNoneD (.bool i) = false := Eq.symm (Eq.symm rfl)
@[simp] theorem isNoneD_str (i : Str) : isNoneD (.str i) = false := Eq.symm (Eq.symm rfl)
@[simp] theorem isNoneD_tuple (i : List PyData) : isNoneD (.tuple i) = false := Eq.symm (Eq.symm rfl)
@[simp] theorem isNoneD_list (i : List PyData) : isNoneD (.list i) = false := Eq.symm (Eq.symm rfl)
theorem modD_int (i : Int) {j : Int} (h : 0 < j) : modD (.int i) (.int j) = .ok (.int (i % j)) := by
  unfold modD
  exact if_pos h
theorem fdivD_int (i : Int) {j : Int} (h : 0 < j) (hj : j.natAbs.log2 < 9000) : fdivD (.int i) (.int j) = .ok (.int (i / j)) := by
  unfold fdivD
  exact if_pos ⟨h, hj⟩
theorem mulD_intl (i j : Int) (h : i.natAbs < 2 ^ 64) : mulD (.int i) (.int j) = .ok (.int (i * j)) := by
  unfold mulD
  exact if_pos (.inl (.inl h))
theorem mulD_intr (i j : Int) (h : j.natAbs < 2 ^ 64) : mulD (.int i) (.int j) = .ok (.int (i * j)) := by
  unfold mulD
  exact if_pos (.inl (.inr h))
theorem mulI_intl (i j : Int) (h : i.natAbs < 2 ^ 64) : mulI (.int i) (.int j) = .ok (.int (i * j)) := by
  unfold mulI
  exact mulD_intl i j h
theorem mulI_intr (i j : Int) (h : j.natAbs < 2 ^ 64) : mulI (.int i) (.int j) = .ok (.int (i * j)) := by
  unfold mulI
  exact mulD_intr i j h
theorem log2_small {j : Nat} (h : j < 2 ^ 64) : j.log2 < 9000 := by
  by_cases h0 : j = 0
  · subst h0; simp
  · exact Nat.lt_of_lt_of_le ((Nat.log2_lt h0).mpr h) (by decide)
end Pv


namespace Pv.K42
open PySem PySem.Spec L2
open PyProof.Rows hiding St

abbrev prog : Program := PySem.Challenge.pw_pactwork_k42_remedies_and_strikes
def mkFns : List Stmt → List (List Str) → List FnI
  | .FunctionDef nm ar bd _ _ _ sc _ _ _ :: r, N :: Ns => ⟨nm, ar, ar.args.map (·.arg), bd, sc, N⟩ :: mkFns r Ns
  | .FunctionDef _ _ _ _ _ _ _ _ _ _ :: _, [] => []
  | _ :: r, Ns => mkFns r Ns
  | [], _ => []
def nss : List (List Str) := [
  (["value"] : List Str),
  (["value", "letter"] : List Str),
  (["value", "limit", "least", "number"] : List Str),
  (["items", "found", "item"] : List Str),
  (["first", "second"] : List Str),
  (["value", "breach_allowed"] : List Str),
  (["clause", "kind", "party", "action", "days", "done", "lapsed"] : List Str),
  (["value"] : List Str),
  (["clause", "ending"] : List Str),
  (["clause", "ending", "numbers"] : List Str),
  (["clause", "ending"] : List Str),
  (["clause", "ending"] : List Str),
  (["numbers", "table", "number"] : List Str),
  (["clause", "table", "done", "lapsed"] : List Str),
  (["clause", "ending", "numbers", "changed"] : List Str),
  (["value", "limit"] : List Str),
  (["contract"] : List Str),
  (["contract", "number"] : List Str),
  (["contract", "numbers", "table", "index", "clauses", "number", "opening"] : List Str),
  (["contract", "numbers"] : List Str),
  (["count"] : List Str),
  (["numbers", "by", "number"] : List Str),
  (["contract", "by", "table", "clause"] : List Str),
  (["clause", "ending"] : List Str),
  (["contract", "number", "clause", "clauses"] : List Str),
  (["contract", "places", "number", "ending"] : List Str),
  (["contract", "number", "second", "clause", "ending", "count", "mended", "clauses", "opening"] : List Str),
  (["clause", "ending"] : List Str),
  (["contract", "number", "clause"] : List Str),
  (["contract", "clause"] : List Str),
  (["clause"] : List Str),
  (["contract", "clause"] : List Str),
  (["contract", "numbers", "number"] : List Str),
  (["contract", "number"] : List Str),
  (["script", "k", "mixed", "cell"] : List Str),
  (["cell", "limits", "found", "rest", "k", "part"] : List Str),
  (["value", "due", "k"] : List Str),
  (["number", "rest", "name", "k"] : List Str),
  (["cell", "draws", "names", "number"] : List Str),
  (["mask", "count", "most", "powers", "k"] : List Str),
  (["cell", "count", "pools", "most", "draws", "kind", "done", "lapsed"] : List Str),
  (["script", "at", "count", "pools", "most", "clauses", "k"] : List Str),
  (["numbers", "by", "number"] : List Str),
  (["contract", "by", "clauses", "clause"] : List Str),
  (["word", "contract", "number", "second"] : List Str),
  (["word", "contract", "number", "second", "e"] : List Str),
  (["contract", "number"] : List Str),
  (["contract", "number", "place", "numbers", "clause", "changed"] : List Str),
  (["contract", "number", "second", "places", "place", "count", "mended"] : List Str),
  (["clause"] : List Str),
  (["contract", "number", "place"] : List Str),
  (["numbers", "kept", "number"] : List Str),
  (["contract", "numbers", "kept", "number", "clauses", "clause"] : List Str),
  (["contract", "number", "mask", "due", "count", "numbers", "some", "wrong", "value"] : List Str),
  (["contract", "places", "strict", "forgiving", "number", "clause", "ending", "done", "lapsed", "numbers"] : List Str),
  (["script", "draws", "count", "pools", "contract", "second", "numbers", "k", "number"] : List Str)]
def consL : List (Str × PyData) := [("MAX_NAME", (.int 8)), ("MAX_CLAUSES", (.int 16)), ("MAX_CLAUSE_DAYS", (.int 30)), ("LETTERS", (.str "abcdefghijklmnopqrstuvwxyz")), ("KINDS", (.tuple [(.str "must"), (.str "may"), (.str "ban")])), ("ENDINGS", (.tuple [(.str "done"), (.str "lapsed")]))]
def clsL : List ClI := [
  ⟨"PactError", [], ["PactError", "ValueError", "Exception"]⟩,
  ⟨"InvalidClause", ["field"], ["InvalidClause", "PactError", "ValueError", "Exception"]⟩,
  ⟨"InvalidOrder", [], ["InvalidOrder", "PactError", "ValueError", "Exception"]⟩,
  ⟨"NoSuchClause", ["number"], ["NoSuchClause", "PactError", "ValueError", "Exception"]⟩,
  ⟨"TooMany", ["limit", "what"], ["TooMany", "PactError", "ValueError", "Exception"]⟩,
  ⟨"NoBreach", ["number"], ["NoBreach", "PactError", "ValueError", "Exception"]⟩]
def G : GI := ⟨mkFns prog.main.body nss, consL, clsL⟩
def clsBody : List Stmt → Str → List Stmt
  | .ClassDef nm _ _ bd _ _ _ _ _ _ _ :: r, x => if nm = x then bd else clsBody r x
  | _ :: r, x => clsBody r x
  | [], _ => []
def iniX (c home sf qual : Str) : IniX := match clsBody prog.main.body home with
  | [.FunctionDef nm ar bd _ _ _ sc _ _ _] => ⟨c, home, sf, nm, qual, ar, bd, sc⟩
  | _ => ⟨c, home, sf, "", qual, ⟨[], [], none, [], [], none, []⟩, [], ⟨.function, [], false, false, []⟩⟩
def iniL : List IniX := [iniX "InvalidClause" "InvalidClause" "self" "InvalidClause.__init__", iniX "NoSuchClause" "NoSuchClause" "self" "NoSuchClause.__init__", iniX "TooMany" "TooMany" "self" "TooMany.__init__", iniX "NoBreach" "NoBreach" "self" "NoBreach.__init__"]
def P : Prg := ⟨prog, G, iniL⟩
theorem ini0 : IniT prog (iniX "InvalidClause" "InvalidClause" "self" "InvalidClause.__init__") ["field"] where
  pl := by decide +kernel
  sc := ⟨by decide +kernel, by decide +kernel, by decide +kernel, by decide +kernel, by decide +kernel, by decide +kernel, by decide +kernel⟩
  ks := by decide +kernel
  kc := by decide +kernel
  body := ⟨_, _, _, _, _, _, _, _, _, rfl, ⟨_, fun env => rfl⟩, rfl⟩
  top := by decide +kernel
  few := by decide
  ne := by decide
  dbg := by decide +kernel
theorem ini1 : IniT prog (iniX "NoSuchClause" "NoSuchClause" "self" "NoSuchClause.__init__") ["number"] where
  pl := by decide +kernel
  sc := ⟨by decide +kernel, by decide +kernel, by decide +kernel, by decide +kernel, by decide +kernel, by decide +kernel, by decide +kernel⟩
  ks := by decide +kernel
  kc := by decide +kernel
  body := ⟨_, _, _, _, _, _, _, _, _, rfl, ⟨_, fun env => rfl⟩, rfl⟩
  top := by decide +kernel
  few := by decide
  ne := by decide
  dbg := by decide +kernel
theorem ini2 : IniT prog (iniX "TooMany" "TooMany" "self" "TooMany.__init__") ["what", "limit"] where
  pl := by decide +kernel
  sc := ⟨by decide +kernel, by decide +kernel, by decide +kernel, by decide +kernel, by decide +kernel, by decide +kernel, by decide +kernel⟩
  ks := by decide +kernel
  kc := by decide +kernel
  body := ⟨_, _, _, _, _, _, _, _, _, rfl, ⟨_, fun env => rfl⟩, rfl⟩
  top := by decide +kernel
  few := by decide
  ne := by decide
  dbg := by decide +kernel
theorem ini3 : IniT prog (iniX "NoBreach" "NoBreach" "self" "NoBreach.__init__") ["number"] where
  pl := by decide +kernel
  sc := ⟨by decide +kernel, by decide +kernel, by decide +kernel, by decide +kernel, by decide +kernel, by decide +kernel, by decide +kernel⟩
  ks := by decide +kernel
  kc := by decide +kernel
  body := ⟨_, _, _, _, _, _, _, _, _, rfl, ⟨_, fun env => rfl⟩, rfl⟩
  top := by decide +kernel
  few := by decide
  ne := by decide
  dbg := by decide +kernel
theorem iniAll : ∀ d ∈ iniL, ∀ fs, G.flds d.cls = fs → IniT prog d fs.reverse := by
  intro d hd fs hf
  subst hf
  unfold iniL at hd
  simp only [List.mem_cons, List.not_mem_nil, or_false] at hd
  rcases hd with rfl | rfl | rfl | rfl
  · exact (show (G.flds "InvalidClause").reverse = (["field"] : List Str) from by decide +kernel) ▸ ini0
  · exact (show (G.flds "NoSuchClause").reverse = (["number"] : List Str) from by decide +kernel) ▸ ini1
  · exact (show (G.flds "TooMany").reverse = (["what", "limit"] : List Str) from by decide +kernel) ▸ ini2
  · exact (show (G.flds "NoBreach").reverse = (["number"] : List Str) from by decide +kernel) ▸ ini3
theorem okP : P.Ok := ⟨by decide +kernel, iniAll, by decide +kernel, trivial⟩
end Pv.K42


namespace Pv.K42
open PySem PySem.Spec L2
open PyProof.Rows hiding St
def looseL : List Str := (["MAX_NAME", "MAX_CLAUSES", "MAX_CLAUSE_DAYS", "PactError", "InvalidClause", "InvalidOrder", "NoSuchClause", "TooMany", "NoBreach", "LETTERS", "is_integer", "is_name", "is_numbers", "distinct", "merge", "KINDS", "is_list", "wrong_field", "is_clause", "list_of", "follow_ups", "is_breach", "is_fault", "new_numbers", "relinked", "with_follow_ups", "is_number", "size", "clause_at", "renumbered"] : List Str) ++ (["kept_only", "check_count", "moved_numbers", "moved_clauses", "ENDINGS", "fault_ending", "with_clause", "breach_places", "with_remedy", "strict_clause", "without_remedy", "strict_form", "forgiving_clause", "forgiving_form", "struck_all", "struck", "_law_cell", "_law_draws", "_law_equal", "_law_name", "_law_pools", "_law_numbers", "_law_clause", "_law_contract", "_law_moved", "_law_shifted", "_law_called", "_law_told", "_law_has", "_law_with_list"] : List Str) ++ (["_law_with", "_law_place", "_law_without", "_law_renumbered", "_law_struck", "_law_strikes_right", "_law_forms_right"] : List Str)
abbrev Rrow : PySem.W.OpenRow := PySem.W.OpenLaw.row PySem.Challenge.rw_pactwork_k42_remedies_and_strikes
abbrev hk : PySem.W.Hook := P.hook 4
def ob (s : PySem.W.SharedT) : AlP := P.obsG 4 (HandSHeadRun.getT s)
theorem ob_eq (s : PySem.W.SharedT) : ob s = hk.obs s.abs := Prg.obsG_eq (HandSHeadRun.getT_eq s)
theorem run (w : World) : HandSHeadRun.RunEq Rrow (PySem.W.view Rrow.prog [76]) hk ob 6000 looseL w := by
  intro os
  kernel_rfl

end Pv.K42


namespace Pv.K42
open PySem PySem.Spec L2
open PyProof.Rows hiding St
abbrev FU : Nat := 120
abbrev WN : Nat := 100000
abbrev Ev : Nat → Ph := PhN G WN FU
def t0 (Φ : Ph) : CS := sSeq (disow [] (sRet (cAndV (c1 (isiD ["int"]) (cVarB 0)) (cNotV (c1 (isiD ["bool"]) (cVarB 0)))))) (sNx)
theorem e0 (k : Nat) (ds : List PyData) : Ev (k + 1) 0 ds = runC (t0 (Ev k)) ["value"] ["value"] ds := by kernel_rfl
def b1_0 (Φ : Ph) : CS := sSeq (sIf (cTst (c2 notInD (cVarB 1) (cK (.str "abcdefghijklmnopqrstuvwxyz")))) (sSeq (disow [] (sRet (cK (.bool false)))) (sNx)) (sNx)) (sNx)
def t1 (Φ : Ph) : CS := sSeq (sIf (cOrT (cNotT (cTst (c1 (isiD ["str"]) (cVarB 0)))) (cNotT (cTst (cCh leD leD (cK (.int 1)) (c1 lenD (cVarB 0)) (cK (.int 8)))))) (sSeq (disow [] (sRet (cK (.bool false)))) (sNx)) (sNx)) (sSeq (disow [0] (sFor (cItE (cVar 0)) (.one 1) (b1_0 Φ))) (sSeq (disow [] (sRet (cK (.bool true)))) (sNx)))
theorem e1 (k : Nat) (ds : List PyData) : Ev (k + 1) 1 ds = runC (t1 (Ev k)) ["value", "letter"] ["value"] ds := by kernel_rfl
def b2_0 (Φ : Ph) : CS := sSeq (sIf (cOrT (cNotT (cTst (cCall Φ 0 [cVarB 3] [some 3]))) (cNotT (cTst (cCh leD ltD (cVarB 2) (cVarB 3) (cVarB 1))))) (sSeq (disow [] (sRet (cK (.bool false)))) (sNx)) (sNx)) (sSeq (disow [] (sSet 2 true (c2 addD (cVarB 3) (cK (.int 1))))) (sNx))
def t2 (Φ : Ph) : CS := sSeq (sIf (cNotT (cTst (c1 (isiD ["tuple"]) (cVarB 0)))) (sSeq (disow [] (sRet (cK (.bool false)))) (sNx)) (sNx)) (sSeq (disow [] (sSet 2 false (cK (.int 0)))) (sSeq (disow [0] (sFor (cItE (cVar 0)) (.one 3) (b2_0 Φ))) (sSeq (disow [] (sRet (cK (.bool true)))) (sNx))))
theorem e2 (k : Nat) (ds : List PyData) : Ev (k + 1) 2 ds = runC (t2 (Ev k)) ["value", "limit", "least", "number"] ["value", "limit"] ds := by kernel_rfl
def b3_0 (Φ : Ph) : CS := sSeq (sIf (cOrT (cTst (c2 eqD (c1 lenD (cVarB 1)) (cK (.int 0)))) (cTst (c2 neD (c2 ixD (cVarB 1) (c1 negD (cK (.int 1)))) (cVarB 2)))) (sSeq (disow [2] (sApp 1 (cVar 2))) (sNx)) (sNx)) (sNx)
def t3 (Φ : Ph) : CS := sSeq (disow [] (sSet 1 true (cLst []))) (sSeq (disow [] (sFor (cItE (c1 sortD (c1 listD (cVarB 0)))) (.one 2) (b3_0 Φ))) (sSeq (disow [] (sRet (c1 tupleD (cVarB 1)))) (sNx)))
theorem e3 (k : Nat) (ds : List PyData) : Ev (k + 1) 3 ds = runC (t3 (Ev k)) ["items", "found", "item"] ["items"] ds := by kernel_rfl
def t4 (Φ : Ph) : CS := sSeq (disow [] (sRet (cCall Φ 3 [c2 addD (c1 listD (cVarB 0)) (c1 listD (cVarB 1))] [none]))) (sNx)
theorem e4 (k : Nat) (ds : List PyData) : Ev (k + 1) 4 ds = runC (t4 (Ev k)) ["first", "second"] ["first", "second"] ds := by kernel_rfl
def t5 (Φ : Ph) : CS := sSeq (sIf (cTst (c2 isD (cVarB 0) (cK .none))) (sSeq (disow [1] (sRet (cVar 1))) (sNx)) (sNx)) (sSeq (disow [] (sRet (cCall Φ 2 [cVarB 0, cK (.int 16)] [some 0, none]))) (sNx))
theorem e5 (k : Nat) (ds : List PyData) : Ev (k + 1) 5 ds = runC (t5 (Ev k)) ["value", "breach_allowed"] ["value", "breach_allowed"] ds := by kernel_rfl
def t6 (Φ : Ph) : CS := sSeq (disow [0] (sTg (.tup [1, 2, 3, 4, 5, 6]) (cVar 0))) (sSeq (sIf (cOrT (cNotT (cTst (c1 (isiD ["str"]) (cVarB 1)))) (cTst (c2 notInD (cVarB 1) (cK (.tuple [(.str "must"), (.str "may"), (.str "ban")]))))) (sSeq (disow [] (sRet (cK (.str "kind")))) (sNx)) (sNx)) (sSeq (sIf (cNotT (cTst (cCall Φ 1 [cVarB 2] [some 2]))) (sSeq (disow [] (sRet (cK (.str "party")))) (sNx)) (sNx)) (sSeq (sIf (cNotT (cTst (cCall Φ 1 [cVarB 3] [some 3]))) (sSeq (disow [] (sRet (cK (.str "action")))) (sNx)) (sNx)) (sSeq (sIf (cOrT (cNotT (cTst (cCall Φ 0 [cVarB 4] [some 4]))) (cNotT (cTst (cCh leD leD (cK (.int 1)) (cVarB 4) (cK (.int 30)))))) (sSeq (disow [] (sRet (cK (.str "days")))) (sNx)) (sNx)) (sSeq (sIf (cNotT (cTst (cCall Φ 5 [cVarB 5, c2 eqD (cVarB 1) (cK (.str "ban"))] [some 5, none]))) (sSeq (disow [] (sRet (cK (.str "done")))) (sNx)) (sNx)) (sSeq (sIf (cNotT (cTst (cCall Φ 5 [cVarB 6, c2 eqD (cVarB 1) (cK (.str "must"))] [some 6, none]))) (sSeq (disow [] (sRet (cK (.str "lapsed")))) (sNx)) (sNx)) (sSeq (disow [] (sRet (cK (.str "")))) (sNx))))))))
theorem e6 (k : Nat) (ds : List PyData) : Ev (k + 1) 6 ds = runC (t6 (Ev k)) ["clause", "kind", "party", "action", "days", "done", "lapsed"] ["clause"] ds := by kernel_rfl
def t7 (Φ : Ph) : CS := sSeq (sIf (cOrT (cNotT (cTst (c1 (isiD ["tuple"]) (cVarB 0)))) (cTst (c2 neD (c1 lenD (cVarB 0)) (cK (.int 6))))) (sSeq (disow [] (sRet (cK (.bool false)))) (sNx)) (sNx)) (sSeq (disow [] (sRet (c2 eqD (cCall Φ 6 [cVarB 0] [some 0]) (cK (.str ""))))) (sNx))
theorem e7 (k : Nat) (ds : List PyData) : Ev (k + 1) 7 ds = runC (t7 (Ev k)) ["value"] ["value"] ds := by kernel_rfl
def t8 (Φ : Ph) : CS := sSeq (sIf (cTst (c2 eqD (cVarB 1) (cK (.str "done")))) (sSeq (disow [] (sRet (c2 ixD (cVarB 0) (cK (.int 4))))) (sNx)) (sNx)) (sSeq (disow [] (sRet (c2 ixD (cVarB 0) (cK (.int 5))))) (sNx))
theorem e8 (k : Nat) (ds : List PyData) : Ev (k + 1) 8 ds = runC (t8 (Ev k)) ["clause", "ending"] ["clause", "ending"] ds := by kernel_rfl
def t9 (Φ : Ph) : CS := sSeq (disow [] (sSet 2 false (cCall Φ 8 [cVarB 0, cVarB 1] [some 0, some 1]))) (sSeq (sIf (cTst (c2 isD (cVarB 2) (cK .none))) (sSeq (disow [] (sRet (cTup []))) (sNx)) (sNx)) (sSeq (disow [2] (sRet (cVar 2))) (sNx)))
theorem e9 (k : Nat) (ds : List PyData) : Ev (k + 1) 9 ds = runC (t9 (Ev k)) ["clause", "ending", "numbers"] ["clause", "ending"] ds := by kernel_rfl
def t10 (Φ : Ph) : CS := sSeq (disow [] (sRet (c2 isD (cCall Φ 8 [cVarB 0, cVarB 1] [some 0, some 1]) (cK .none)))) (sNx)
theorem e10 (k : Nat) (ds : List PyData) : Ev (k + 1) 10 ds = runC (t10 (Ev k)) ["clause", "ending"] ["clause", "ending"] ds := by kernel_rfl
def t11 (Φ : Ph) : CS := sSeq (sIf (cTst (c2 eqD (cVarB 1) (cK (.str "done")))) (sSeq (disow [] (sRet (c2 eqD (c2 ixD (cVarB 0) (cK (.int 0))) (cK (.str "ban"))))) (sNx)) (sNx)) (sSeq (disow [] (sRet (c2 eqD (c2 ixD (cVarB 0) (cK (.int 0))) (cK (.str "must"))))) (sNx))
theorem e11 (k : Nat) (ds : List PyData) : Ev (k + 1) 11 ds = runC (t11 (Ev k)) ["clause", "ending"] ["clause", "ending"] ds := by kernel_rfl
def q12_0 (Φ : Ph) : CT := cTst (c2 geD (c2 ixD (cVarB 1) (cVarB 2)) (cK (.int 0)))
def c12_0 (Φ : Ph) : CE := c2 ixD (cVarB 1) (cVarB 2)
def t12 (Φ : Ph) : CS := sSeq (sIf (cTst (c2 isD (cVarB 0) (cK .none))) (sSeq (disow [] (sRet (cK .none))) (sNx)) (sNx)) (sSeq (disow [] (sRet (cCall Φ 4 [cComp (cItE (cVarB 0)) [2] (.one 2) (q12_0 Φ) (c12_0 Φ), cTup []] [none, none]))) (sNx))
theorem e12 (k : Nat) (ds : List PyData) : Ev (k + 1) 12 ds = runC (t12 (Ev k)) ["numbers", "table", "number"] ["numbers", "table"] ds := by kernel_rfl
def t13 (Φ : Ph) : CS := sSeq (disow [] (sSet 2 false (cCall Φ 12 [c2 ixD (cVarB 0) (cK (.int 4)), cVarB 1] [none, some 1]))) (sSeq (disow [] (sSet 3 false (cCall Φ 12 [c2 ixD (cVarB 0) (cK (.int 5)), cVarB 1] [none, some 1]))) (sSeq (disow [2, 3] (sRet (c2 addD (cSl (cVarB 0) none (some (cK (.int 4)))) (cTup [cVar 2, cVar 3])))) (sNx)))
theorem e13 (k : Nat) (ds : List PyData) : Ev (k + 1) 13 ds = runC (t13 (Ev k)) ["clause", "table", "done", "lapsed"] ["clause", "table"] ds := by kernel_rfl
def t14 (Φ : Ph) : CS := sSeq (sIf (cTst (c2 eqD (cVarB 1) (cK (.str "done")))) (sSeq (disow [2] (sSet 3 true (c2 addD (cSl (cVarB 0) none (some (cK (.int 4)))) (cTup [cVar 2, c2 ixD (cVarB 0) (cK (.int 5))])))) (sNx)) (sSeq (disow [2] (sSet 3 true (c2 addD (cSl (cVarB 0) none (some (cK (.int 5)))) (cTup [cVar 2])))) (sNx))) (sSeq (sIf (cNotT (cTst (cCall Φ 7 [cVarB 3] [some 3]))) (sSeq (disow [1] (sRaise G "InvalidClause" [cVar 1])) (sNx)) (sNx)) (sSeq (disow [3] (sRet (cVar 3))) (sNx)))
theorem e14 (k : Nat) (ds : List PyData) : Ev (k + 1) 14 ds = runC (t14 (Ev k)) ["clause", "ending", "numbers", "changed"] ["clause", "ending", "numbers"] ds := by kernel_rfl
def t15 (Φ : Ph) : CS := sSeq (disow [] (sRet (cAndV (cCall Φ 0 [cVarB 0] [some 0]) (cCh leD ltD (cK (.int 0)) (cVarB 0) (cVarB 1))))) (sNx)
theorem e15 (k : Nat) (ds : List PyData) : Ev (k + 1) 15 ds = runC (t15 (Ev k)) ["value", "limit"] ["value", "limit"] ds := by kernel_rfl
def t16 (Φ : Ph) : CS := sSeq (disow [] (sRet (c1 lenD (c2 ixD (cVarB 0) (cK (.int 0)))))) (sNx)
theorem e16 (k : Nat) (ds : List PyData) : Ev (k + 1) 16 ds = runC (t16 (Ev k)) ["contract"] ["contract"] ds := by kernel_rfl
def t17 (Φ : Ph) : CS := sSeq (sIf (cNotT (cTst (cCall Φ 15 [cVarB 1, cCall Φ 16 [cVarB 0] [some 0]] [some 1, none]))) (sSeq (disow [1] (sRaise G "NoSuchClause" [cVar 1])) (sNx)) (sNx)) (sSeq (disow [] (sRet (c2 ixD (c2 ixD (cVarB 0) (cK (.int 0))) (cVarB 1)))) (sNx))
theorem e17 (k : Nat) (ds : List PyData) : Ev (k + 1) 17 ds = runC (t17 (Ev k)) ["contract", "number"] ["contract", "number"] ds := by kernel_rfl
def b18_0 (Φ : Ph) : CS := sSeq (disow [3] (sPut 2 (c2 ixD (cVarB 1) (cVarB 3)) (cVar 3))) (sNx)
def c18_0 (Φ : Ph) : CE := cCall Φ 13 [c2 ixD (c2 ixD (cVarB 0) (cK (.int 0))) (cVarB 5), c1 tupleD (cVarB 2)] [none, none]
def q18_0 (Φ : Ph) : CT := cTst (c2 geD (c2 ixD (cVarB 2) (cVarB 5)) (cK (.int 0)))
def c18_1 (Φ : Ph) : CE := c2 ixD (cVarB 2) (cVarB 5)
def t18 (Φ : Ph) : CS := sSeq (disow [] (sSet 2 true (c2 mulD (cLst [c1 negD (cK (.int 1))]) (cCall Φ 16 [cVarB 0] [some 0])))) (sSeq (disow [] (sFor (cRange1 (c1 lenD (cVarB 1))) (.one 3) (b18_0 Φ))) (sSeq (disow [] (sSet 4 false (c1 tupleD (cComp (cItE (cVarB 1)) [5] (.one 5) (tYesC) (c18_0 Φ))))) (sSeq (disow [] (sSet 6 false (cCall Φ 3 [cComp (cItE (c2 ixD (cVarB 0) (cK (.int 1)))) [5] (.one 5) (q18_0 Φ) (c18_1 Φ)] [none]))) (sSeq (disow [4, 6] (sRet (cTup [cVar 4, cVar 6]))) (sNx)))))
theorem e18 (k : Nat) (ds : List PyData) : Ev (k + 1) 18 ds = runC (t18 (Ev k)) ["contract", "numbers", "table", "index", "clauses", "number", "opening"] ["contract", "numbers"] ds := by kernel_rfl
def t19 (Φ : Ph) : CS := sSeq (sIf (cNotT (cTst (cCall Φ 2 [cVarB 1, cCall Φ 16 [cVarB 0] [some 0]] [some 1, none]))) (sSeq (disow [] (sRaise G "InvalidOrder" [cK (.str "not numbers of clauses")])) (sNx)) (sNx)) (sSeq (disow [] (sRet (cCall Φ 18 [cVarB 0, cVarB 1] [some 0, some 1]))) (sNx))
theorem e19 (k : Nat) (ds : List PyData) : Ev (k + 1) 19 ds = runC (t19 (Ev k)) ["contract", "numbers"] ["contract", "numbers"] ds := by kernel_rfl
def t20 (Φ : Ph) : CS := sSeq (sIf (cTst (c2 gtD (cVarB 0) (cK (.int 16)))) (sSeq (disow [] (sRaise G "TooMany" [cK (.str "clauses"), cK (.int 16)])) (sNx)) (sNx)) (sNx)
theorem e20 (k : Nat) (ds : List PyData) : Ev (k + 1) 20 ds = runC (t20 (Ev k)) ["count"] ["count"] ds := by kernel_rfl
def c21_0 (Φ : Ph) : CE := c2 addD (cVarB 2) (cVarB 1)
def t21 (Φ : Ph) : CS := sSeq (disow [] (sRet (c1 tupleD (cComp (cItE (cVarB 0)) [2] (.one 2) (tYesC) (c21_0 Φ))))) (sNx)
theorem e21 (k : Nat) (ds : List PyData) : Ev (k + 1) 21 ds = runC (t21 (Ev k)) ["numbers", "by", "number"] ["numbers", "by"] ds := by kernel_rfl
def c22_0 (Φ : Ph) : CE := cCall Φ 13 [cVarB 3, cVarB 2] [some 3, some 2]
def t22 (Φ : Ph) : CS := sSeq (disow [] (sSet 2 false (cCall Φ 21 [cRgS false (cCall Φ 16 [cVarB 0] [some 0]), cVarB 1] [none, some 1]))) (sSeq (disow [] (sRet (c1 tupleD (cComp (cItE (c2 ixD (cVarB 0) (cK (.int 0)))) [3] (.one 3) (tYesC) (c22_0 Φ))))) (sNx))
theorem e22 (k : Nat) (ds : List PyData) : Ev (k + 1) 22 ds = runC (t22 (Ev k)) ["contract", "by", "table", "clause"] ["contract", "by"] ds := by kernel_rfl
def b23_0 (Φ : Ph) : CS := sSeq (sIf (cTst (cCall Φ 11 [cVarB 0, cVarB 1] [some 0, some 1])) (sSeq (disow [1] (sRet (cVar 1))) (sNx)) (sNx)) (sNx)
def t23 (Φ : Ph) : CS := sSeq (disow [] (sFor (cItE (cK (.tuple [(.str "done"), (.str "lapsed")]))) (.one 1) (b23_0 Φ))) (sSeq (disow [] (sRet (cK (.str "")))) (sNx))
theorem e23 (k : Nat) (ds : List PyData) : Ev (k + 1) 23 ds = runC (t23 (Ev k)) ["clause", "ending"] ["clause"] ds := by kernel_rfl
def t24 (Φ : Ph) : CS := sSeq (disow [2] (sSet 3 true (c2 addD (c2 addD (cSl (c2 ixD (cVarB 0) (cK (.int 0))) none (some (cVarB 1))) (cTup [cVar 2])) (cSl (c2 ixD (cVarB 0) (cK (.int 0))) (some (c2 addD (cVarB 1) (cK (.int 1)))) none)))) (sSeq (disow [3] (sRet (cTup [cVar 3, c2 ixD (cVarB 0) (cK (.int 1))]))) (sNx))
theorem e24 (k : Nat) (ds : List PyData) : Ev (k + 1) 24 ds = runC (t24 (Ev k)) ["contract", "number", "clause", "clauses"] ["contract", "number", "clause"] ds := by kernel_rfl
def b25_0 (Φ : Ph) : CS := sSeq (sIf (cTst (cCall Φ 10 [c2 ixD (c2 ixD (cVarB 0) (cK (.int 0))) (cVarB 2), cVarB 3] [none, some 3])) (sSeq (disow [2, 3] (sApp 1 (cTup [cVar 2, cVar 3]))) (sNx)) (sNx)) (sNx)
def b25_1 (Φ : Ph) : CS := sSeq (disow [] (sFor (cItE (cK (.tuple [(.str "done"), (.str "lapsed")]))) (.one 3) (b25_0 Φ))) (sNx)
def t25 (Φ : Ph) : CS := sSeq (disow [] (sSet 1 true (cLst []))) (sSeq (disow [] (sFor (cRange1 (cCall Φ 16 [cVarB 0] [some 0])) (.one 2) (b25_1 Φ))) (sSeq (disow [1] (sRet (cVar 1))) (sNx)))
theorem e25 (k : Nat) (ds : List PyData) : Ev (k + 1) 25 ds = runC (t25 (Ev k)) ["contract", "places", "number", "ending"] ["contract"] ds := by kernel_rfl
def t26 (Φ : Ph) : CS := sSeq (disow [] (sSet 3 false (cCall Φ 17 [cVarB 0, cVarB 1] [some 0, some 1]))) (sSeq (disow [] (sSet 4 false (cCall Φ 23 [cVarB 3] [some 3]))) (sSeq (sIf (cOrT (cTst (c2 eqD (cVarB 4) (cK (.str "")))) (cNotT (cTst (cCall Φ 10 [cVarB 3, cVarB 4] [some 3, some 4])))) (sSeq (disow [1] (sRaise G "NoBreach" [cVar 1])) (sNx)) (sNx)) (sSeq (disow [] (sSet 5 false (cCall Φ 16 [cVarB 0] [some 0]))) (sSeq (sDrop (cCall Φ 20 [c2 addD (cVarB 5) (cCall Φ 16 [cVarB 2] [some 2])] [none])) (sSeq (disow [] (sSet 6 false (cCall Φ 14 [cVarB 3, cVarB 4, cCall Φ 21 [c2 ixD (cVarB 2) (cK (.int 1)), cVarB 5] [none, some 5]] [some 3, some 4, none]))) (sSeq (disow [] (sTg (.tup [7, 8]) (cCall Φ 24 [cVarB 0, cVarB 1, cVarB 6] [some 0, some 1, some 6]))) (sSeq (disow [8] (sRet (cTup [c2 addD (cVarB 7) (cCall Φ 22 [cVarB 2, cVarB 5] [some 2, some 5]), cVar 8]))) (sNx))))))))
theorem e26 (k : Nat) (ds : List PyData) : Ev (k + 1) 26 ds = runC (t26 (Ev k)) ["contract", "number", "second", "clause", "ending", "count", "mended", "clauses", "opening"] ["contract", "number", "second"] ds := by kernel_rfl
def t27 (Φ : Ph) : CS := sSeq (disow [] (sSet 1 false (cCall Φ 23 [cVarB 0] [some 0]))) (sSeq (sIf (cTst (c2 eqD (cVarB 1) (cK (.str "")))) (sSeq (disow [0] (sRet (cVar 0))) (sNx)) (sNx)) (sSeq (disow [] (sRet (cCall Φ 14 [cVarB 0, cVarB 1, cK .none] [some 0, some 1, none]))) (sNx)))
theorem e27 (k : Nat) (ds : List PyData) : Ev (k + 1) 27 ds = runC (t27 (Ev k)) ["clause", "ending"] ["clause"] ds := by kernel_rfl
def t28 (Φ : Ph) : CS := sSeq (disow [] (sSet 2 false (cCall Φ 17 [cVarB 0, cVarB 1] [some 0, some 1]))) (sSeq (sIf (cTst (c2 eqD (cCall Φ 23 [cVarB 2] [some 2]) (cK (.str "")))) (sSeq (disow [1] (sRaise G "NoBreach" [cVar 1])) (sNx)) (sNx)) (sSeq (disow [] (sRet (cCall Φ 24 [cVarB 0, cVarB 1, cCall Φ 27 [cVarB 2] [some 2]] [some 0, some 1, none]))) (sNx)))
theorem e28 (k : Nat) (ds : List PyData) : Ev (k + 1) 28 ds = runC (t28 (Ev k)) ["contract", "number", "clause"] ["contract", "number"] ds := by kernel_rfl
def c29_0 (Φ : Ph) : CE := cCall Φ 27 [cVarB 1] [some 1]
def t29 (Φ : Ph) : CS := sSeq (disow [] (sRet (cTup [c1 tupleD (cComp (cItE (c2 ixD (cVarB 0) (cK (.int 0)))) [1] (.one 1) (tYesC) (c29_0 Φ)), c2 ixD (cVarB 0) (cK (.int 1))]))) (sNx)
theorem e29 (k : Nat) (ds : List PyData) : Ev (k + 1) 29 ds = runC (t29 (Ev k)) ["contract", "clause"] ["contract"] ds := by kernel_rfl
def t30 (Φ : Ph) : CS := sSeq (disow [] (sRet (c2 addD (cSl (cVarB 0) none (some (cK (.int 4)))) (cTup [cCall Φ 9 [cVarB 0, cK (.str "done")] [some 0, none], cCall Φ 9 [cVarB 0, cK (.str "lapsed")] [some 0, none]])))) (sNx)
theorem e30 (k : Nat) (ds : List PyData) : Ev (k + 1) 30 ds = runC (t30 (Ev k)) ["clause"] ["clause"] ds := by kernel_rfl
def c31_0 (Φ : Ph) : CE := cCall Φ 30 [cVarB 1] [some 1]
def t31 (Φ : Ph) : CS := sSeq (disow [] (sRet (cTup [c1 tupleD (cComp (cItE (c2 ixD (cVarB 0) (cK (.int 0)))) [1] (.one 1) (tYesC) (c31_0 Φ)), c2 ixD (cVarB 0) (cK (.int 1))]))) (sNx)
theorem e31 (k : Nat) (ds : List PyData) : Ev (k + 1) 31 ds = runC (t31 (Ev k)) ["contract", "clause"] ["contract"] ds := by kernel_rfl
def q32_0 (Φ : Ph) : CT := cTst (c2 notInD (cVarB 2) (cVarB 1))
def c32_0 (Φ : Ph) : CE := cVar 2
def t32 (Φ : Ph) : CS := sSeq (sIf (cNotT (cTst (cCall Φ 2 [cVarB 1, cCall Φ 16 [cVarB 0] [some 0]] [some 1, none]))) (sSeq (disow [] (sRaise G "InvalidOrder" [cK (.str "not numbers of clauses")])) (sNx)) (sNx)) (sSeq (disow [2] (sRet (cCall Φ 19 [cVarB 0, c1 tupleD (cComp (cRange1 (cCall Φ 16 [cVarB 0] [some 0])) [2] (.one 2) (q32_0 Φ) (c32_0 Φ))] [some 0, none]))) (sNx))
theorem e32 (k : Nat) (ds : List PyData) : Ev (k + 1) 32 ds = runC (t32 (Ev k)) ["contract", "numbers", "number"] ["contract", "numbers"] ds := by kernel_rfl
def t33 (Φ : Ph) : CS := sSeq (sDrop (cCall Φ 17 [cVarB 0, cVarB 1] [some 0, some 1])) (sSeq (disow [1] (sRet (cCall Φ 32 [cVarB 0, cTup [cVar 1]] [some 0, none]))) (sNx))
theorem e33 (k : Nat) (ds : List PyData) : Ev (k + 1) 33 ds = runC (t33 (Ev k)) ["contract", "number"] ["contract", "number"] ds := by kernel_rfl
def b34_0 (Φ : Ph) : CS := sSeq (disow [] (sSet 2 true (c2 modD (c1 intD (c2 addD (c2 mulI (cVar 2) (cK (.int 48271))) (cVarB 3))) (cK (.int 2147483647))))) (sNx)
def t34 (Φ : Ph) : CS := sSeq (sIf (cTst (c2 ltD (cVarB 1) (c1 lenD (cVarB 0)))) (sSeq (disow [] (sRet (c1 intD (c2 ixD (cVarB 0) (cVarB 1))))) (sNx)) (sNx)) (sSeq (disow [] (sSet 2 true (c2 addD (c2 mulI (cK (.int 7)) (cVarB 1)) (cK (.int 11))))) (sSeq (disow [0] (sFor (cItE (cVar 0)) (.one 3) (b34_0 Φ))) (sSeq (disow [2] (sRet (cVar 2))) (sNx))))
theorem e34 (k : Nat) (ds : List PyData) : Ev (k + 1) 34 ds = runC (t34 (Ev k)) ["script", "k", "mixed", "cell"] ["script", "k"] ds := by kernel_rfl
def b35_0 (Φ : Ph) : CS := sSeq (disow [3] (sSet 5 false (cVar 3))) (sSeq (sIf (cTst (c2 ltD (cVarB 0) (c2 powD (cK (.int 10)) (cK (.int 18))))) (sSeq (disow [] (sSet 5 true (c2 modD (c1 intD (c2 addD (c2 mulD (c2 modD (c1 intD (c2 addD (c2 addD (c2 mulI (cVar 0) (cK (.int 48271))) (c2 mulI (cVar 4) (cK (.int 69621)))) (cK (.int 13)))) (cK (.int 2147483647))) (cK (.int 16807))) (c2 mulI (cVar 4) (cVarB 4)))) (cK (.int 998244353))))) (sNx)) (sSeq (disow [] (sSet 3 true (c2 fdivD (cVarB 3) (c2 ixD (cVarB 1) (cVarB 4))))) (sNx))) (sSeq (disow [] (sApp 2 (c2 modD (c1 intD (cVarB 5)) (c2 ixD (cVarB 1) (cVarB 4))))) (sNx)))
def t35 (Φ : Ph) : CS := sSeq (disow [] (sSet 2 true (cLst []))) (sSeq (disow [] (sSet 3 false (c1 intD (cVarB 0)))) (sSeq (disow [] (sFor (cRange1 (c1 lenD (cVarB 1))) (.one 4) (b35_0 Φ))) (sSeq (disow [2] (sRet (cVar 2))) (sNx))))
theorem e35 (k : Nat) (ds : List PyData) : Ev (k + 1) 35 ds = runC (t35 (Ev k)) ["cell", "limits", "found", "rest", "k", "part"] ["cell", "limits"] ds := by kernel_rfl
def b36_0 (Φ : Ph) : CS := sSeq (sIf (cNotT (cTst (cCall Φ 36 [c2 ixD (cVarB 0) (cVarB 2), c2 ixD (cVarB 1) (cVarB 2)] [none, none]))) (sSeq (disow [] (sRet (cK (.bool false)))) (sNx)) (sNx)) (sNx)
def t36 (Φ : Ph) : CS := sSeq (sIf (cTst (c1 (isiD ["tuple", "list"]) (cVarB 1))) (sSeq (sIf (cOrT (cTst (c2 neD (c1 (isiD ["tuple"]) (cVarB 0)) (c1 (isiD ["tuple"]) (cVarB 1)))) (cTst (c2 neD (c1 (isiD ["list"]) (cVarB 0)) (c1 (isiD ["list"]) (cVarB 1))))) (sSeq (disow [] (sRet (cK (.bool false)))) (sNx)) (sNx)) (sSeq (sIf (cTst (c2 neD (c1 lenD (cVarB 0)) (c1 lenD (cVarB 1)))) (sSeq (disow [] (sRet (cK (.bool false)))) (sNx)) (sNx)) (sSeq (disow [] (sFor (cRange1 (c1 lenD (cVarB 1))) (.one 2) (b36_0 Φ))) (sSeq (disow [] (sRet (cK (.bool true)))) (sNx))))) (sNx)) (sSeq (sIf (cTst (c1 (isiD ["int"]) (cVarB 1))) (sSeq (disow [] (sRet (cAndV (c1 (isiD ["int"]) (cVarB 0)) (cAndV (c2 eqD (c1 (isiD ["bool"]) (cVarB 0)) (c1 (isiD ["bool"]) (cVarB 1))) (c2 eqD (cVarB 0) (cVarB 1)))))) (sNx)) (sNx)) (sSeq (sIf (cTst (c2 isD (cVarB 1) (cK .none))) (sSeq (disow [] (sRet (c2 isD (cVarB 0) (cK .none)))) (sNx)) (sNx)) (sSeq (disow [] (sRet (cAndV (c1 (isiD ["str"]) (cVarB 0)) (c2 eqD (cVarB 0) (cVarB 1))))) (sNx))))
theorem e36 (k : Nat) (ds : List PyData) : Ev (k + 1) 36 ds = runC (t36 (Ev k)) ["value", "due", "k"] ["value", "due"] ds := by kernel_rfl
def b37_0 (Φ : Ph) : CS := sSeq (sIf (cTst (c2 geD (cVarB 1) (cK (.int 0)))) (sSeq (disow [] (sSet 2 true (c2 addD (c2 ixD (cK (.str "abcdefghijklmnopqrstuvwxyz")) (c2 modD (c1 intD (cVarB 1)) (cK (.int 26)))) (cVarB 2)))) (sSeq (disow [] (sSet 1 true (c2 subD (c2 fdivD (cVarB 1) (cK (.int 26))) (cK (.int 1))))) (sNx))) (sNx)) (sNx)
def t37 (Φ : Ph) : CS := sSeq (disow [] (sSet 1 false (c1 intD (cVarB 0)))) (sSeq (disow [] (sSet 2 false (cK (.str "")))) (sSeq (disow [] (sFor (cRange1 (cK (.int 8))) (.one 3) (b37_0 Φ))) (sSeq (disow [2] (sRet (cVar 2))) (sNx))))
theorem e37 (k : Nat) (ds : List PyData) : Ev (k + 1) 37 ds = runC (t37 (Ev k)) ["number", "rest", "name", "k"] ["number"] ds := by kernel_rfl
def c38_0 (Φ : Ph) : CE := cCall Φ 37 [cVarB 3] [some 3]
def t38 (Φ : Ph) : CS := sSeq (disow [] (sSet 1 false (cCall Φ 35 [cVarB 0, c2 addD (cLst [cK (.int 2)]) (c2 mulD (cLst [cK (.int 217180147158)]) (cK (.int 7)))] [some 0, none]))) (sSeq (sIf (cTst (c2 eqD (c2 ixD (cVarB 1) (cK (.int 0))) (cK (.int 0)))) (sSeq (disow [] (sRet (cLst [cLst [cK (.str "ann"), cK (.str "bob"), cK (.str "cid")], cLst [cK (.str "call"), cK (.str "pay"), cK (.str "ring"), cK (.str "sell")]]))) (sNx)) (sNx)) (sSeq (disow [] (sSet 2 true (cComp (cItE (cSl (cVarB 1) (some (cK (.int 1))) none)) [3] (.one 3) (tYesC) (c38_0 Φ)))) (sSeq (disow [] (sRet (cLst [cSl (cVarB 2) none (some (cK (.int 3))), cSl (cVarB 2) (some (cK (.int 3))) none]))) (sNx))))
theorem e38 (k : Nat) (ds : List PyData) : Ev (k + 1) 38 ds = runC (t38 (Ev k)) ["cell", "draws", "names", "number"] ["cell"] ds := by kernel_rfl
def q39_0 (Φ : Ph) : CT := cTst (c2 eqD (c2 modD (c2 fdivD (c1 intD (cVarB 0)) (c2 ixD (cVarB 3) (cVarB 4))) (cK (.int 2))) (cK (.int 1)))
def c39_0 (Φ : Ph) : CE := cVar 4
def t39 (Φ : Ph) : CS := sSeq (disow [] (sSet 3 true (cLst [cK (.int 1), cK (.int 2), cK (.int 4), cK (.int 8), cK (.int 16), cK (.int 32), cK (.int 64), cK (.int 128), cK (.int 256), cK (.int 512), cK (.int 1024), cK (.int 2048), cK (.int 4096), cK (.int 8192), cK (.int 16384), cK (.int 32768)]))) (sSeq (disow [4] (sRet (c1 tupleD (cSl (cComp (cRange1 (cVarB 1)) [4] (.one 4) (q39_0 Φ) (c39_0 Φ)) none (some (cVarB 2)))))) (sNx))
theorem e39 (k : Nat) (ds : List PyData) : Ev (k + 1) 39 ds = runC (t39 (Ev k)) ["mask", "count", "most", "powers", "k"] ["mask", "count", "most"] ds := by kernel_rfl
def t40 (Φ : Ph) : CS := sSeq (disow [] (sSet 4 false (cCall Φ 35 [cVarB 0, cLst [cK (.int 3), cK (.int 3), cK (.int 4), cK (.int 30), cK (.int 65536), cK (.int 65536), cK (.int 3)]] [some 0, none]))) (sSeq (disow [] (sSet 5 false (c2 ixD (cLst [cK (.str "must"), cK (.str "may"), cK (.str "ban")]) (c2 ixD (cVarB 4) (cK (.int 0)))))) (sSeq (disow [] (sSet 6 false (cCall Φ 39 [c2 ixD (cVarB 4) (cK (.int 4)), cVarB 1, cVarB 3] [none, some 1, some 3]))) (sSeq (disow [] (sSet 7 false (cCall Φ 39 [c2 ixD (cVarB 4) (cK (.int 5)), cVarB 1, cVarB 3] [none, some 1, some 3]))) (sSeq (sIf (cAndT (cTst (c2 eqD (cVarB 5) (cK (.str "must")))) (cTst (c2 gtD (c2 ixD (cVarB 4) (cK (.int 6))) (cK (.int 0))))) (sSeq (disow [] (sSet 7 false (cK .none))) (sNx)) (sNx)) (sSeq (sIf (cAndT (cTst (c2 eqD (cVarB 5) (cK (.str "ban")))) (cTst (c2 gtD (c2 ixD (cVarB 4) (cK (.int 6))) (cK (.int 0))))) (sSeq (disow [] (sSet 6 false (cK .none))) (sNx)) (sNx)) (sSeq (disow [5, 6, 7] (sRet (cTup [cVar 5, c2 ixD (c2 ixD (cVarB 2) (cK (.int 0))) (c2 ixD (cVarB 4) (cK (.int 1))), c2 ixD (c2 ixD (cVarB 2) (cK (.int 1))) (c2 ixD (cVarB 4) (cK (.int 2))), c2 addD (c2 ixD (cVarB 4) (cK (.int 3))) (cK (.int 1)), cVar 6, cVar 7]))) (sNx)))))))
theorem e40 (k : Nat) (ds : List PyData) : Ev (k + 1) 40 ds = runC (t40 (Ev k)) ["cell", "count", "pools", "most", "draws", "kind", "done", "lapsed"] ["cell", "count", "pools", "most"] ds := by kernel_rfl
def c41_0 (Φ : Ph) : CE := cCall Φ 40 [cCall Φ 34 [cVarB 0, c2 addD (c2 addD (cVarB 1) (cK (.int 1))) (cVarB 6)] [some 0, none], cVarB 2, cVarB 3, cVarB 4] [none, some 2, some 3, some 4]
def t41 (Φ : Ph) : CS := sSeq (disow [] (sSet 5 true (cComp (cRange1 (cVarB 2)) [6] (.one 6) (tYesC) (c41_0 Φ)))) (sSeq (disow [] (sRet (cTup [c1 tupleD (cVarB 5), cCall Φ 39 [c2 ixD (cCall Φ 35 [cCall Φ 34 [cVarB 0, cVarB 1] [some 0, some 1], cLst [cK (.int 65536)]] [none, none]) (cK (.int 0)), cVarB 2, cVarB 4] [none, some 2, some 4]]))) (sNx))
theorem e41 (k : Nat) (ds : List PyData) : Ev (k + 1) 41 ds = runC (t41 (Ev k)) ["script", "at", "count", "pools", "most", "clauses", "k"] ["script", "at", "count", "pools", "most"] ds := by kernel_rfl
def c42_0 (Φ : Ph) : CE := c2 addD (cVarB 2) (cVarB 1)
def t42 (Φ : Ph) : CS := sSeq (sIf (cTst (c2 isD (cVarB 0) (cK .none))) (sSeq (disow [] (sRet (cK .none))) (sNx)) (sNx)) (sSeq (disow [] (sRet (c1 tupleD (cComp (cItE (cVarB 0)) [2] (.one 2) (tYesC) (c42_0 Φ))))) (sNx))
theorem e42 (k : Nat) (ds : List PyData) : Ev (k + 1) 42 ds = runC (t42 (Ev k)) ["numbers", "by", "number"] ["numbers", "by"] ds := by kernel_rfl
def b43_0 (Φ : Ph) : CS := sSeq (disow [] (sApp 2 (c2 addD (cSl (cVarB 3) none (some (cK (.int 4)))) (cTup [cCall Φ 42 [c2 ixD (cVarB 3) (cK (.int 4)), cVarB 1] [none, some 1], cCall Φ 42 [c2 ixD (cVarB 3) (cK (.int 5)), cVarB 1] [none, some 1]])))) (sNx)
def t43 (Φ : Ph) : CS := sSeq (disow [] (sSet 2 true (cLst []))) (sSeq (disow [] (sFor (cItE (c2 ixD (cVarB 0) (cK (.int 0)))) (.one 3) (b43_0 Φ))) (sSeq (disow [] (sRet (c1 tupleD (cVarB 2)))) (sNx)))
theorem e43 (k : Nat) (ds : List PyData) : Ev (k + 1) 43 ds = runC (t43 (Ev k)) ["contract", "by", "clauses", "clause"] ["contract", "by"] ds := by kernel_rfl
def t44 (Φ : Ph) : CS := sSeq (sIf (cTst (c2 eqD (cVarB 0) (cK (.str "with")))) (sSeq (disow [] (sRet (cCall Φ 26 [cVarB 1, cVarB 2, cVarB 3] [some 1, some 2, some 3]))) (sNx)) (sNx)) (sSeq (sIf (cTst (c2 eqD (cVarB 0) (cK (.str "without")))) (sSeq (disow [] (sRet (cCall Φ 28 [cVarB 1, cVarB 2] [some 1, some 2]))) (sNx)) (sNx)) (sSeq (sIf (cTst (c2 eqD (cVarB 0) (cK (.str "struck")))) (sSeq (disow [] (sRet (cCall Φ 33 [cVarB 1, cVarB 2] [some 1, some 2]))) (sNx)) (sNx)) (sSeq (disow [] (sRet (cCall Φ 32 [cVarB 1, cVarB 2] [some 1, some 2]))) (sNx))))
theorem e44 (k : Nat) (ds : List PyData) : Ev (k + 1) 44 ds = runC (t44 (Ev k)) ["word", "contract", "number", "second"] ["word", "contract", "number", "second"] ds := by kernel_rfl
def t45 (Φ : Ph) : CS := sSeq (sTry G (sSeq (disow [] (sRet (cTup [cK (.str "contract"), cCall Φ 44 [cVarB 0, cVarB 1, cVarB 2, cVarB 3] [some 0, some 1, some 2, some 3]]))) (sNx)) [⟨"NoSuchClause", (some 4), sSeq (sIf (cOrT (cNotT (cTst (cIsE G 4 ["ValueError"]))) (cTst (cIsE G 4 ["NoBreach", "TooMany", "InvalidOrder"]))) (sSeq (disow [] (sRet (cTup [cK (.str "wrong")]))) (sNx)) (sNx)) (sSeq (disow [] (sRet (cTup [cK (.str "clause"), cFld G 4 "number"]))) (sNx))⟩, ⟨"NoBreach", (some 4), sSeq (sIf (cOrT (cNotT (cTst (cIsE G 4 ["ValueError"]))) (cTst (cIsE G 4 ["TooMany", "InvalidOrder"]))) (sSeq (disow [] (sRet (cTup [cK (.str "wrong")]))) (sNx)) (sNx)) (sSeq (disow [] (sRet (cTup [cK (.str "breach"), cFld G 4 "number"]))) (sNx))⟩, ⟨"TooMany", (some 4), sSeq (sIf (cOrT (cNotT (cTst (cIsE G 4 ["ValueError"]))) (cTst (cIsE G 4 ["InvalidOrder"]))) (sSeq (disow [] (sRet (cTup [cK (.str "wrong")]))) (sNx)) (sNx)) (sSeq (disow [] (sRet (cTup [cK (.str "many"), cFld G 4 "what", cFld G 4 "limit"]))) (sNx))⟩, ⟨"InvalidOrder", (some 4), sSeq (sIf (cOrT (cNotT (cTst (cIsE G 4 ["PactError"]))) (cNotT (cTst (cIsE G 4 ["ValueError"])))) (sSeq (disow [] (sRet (cTup [cK (.str "wrong")]))) (sNx)) (sNx)) (sSeq (disow [] (sRet (cTup [cK (.str "order")]))) (sNx))⟩]) (sNx)
theorem e45 (k : Nat) (ds : List PyData) : Ev (k + 1) 45 ds = runC (t45 (Ev k)) ["word", "contract", "number", "second", "e"] ["word", "contract", "number", "second"] ds := by kernel_rfl
def t46 (Φ : Ph) : CS := sSeq (disow [] (sRet (cAndV (c1 (isiD ["int"]) (cVarB 1)) (cAndV (cNotV (c1 (isiD ["bool"]) (cVarB 1))) (cCh leD ltD (cK (.int 0)) (cVarB 1) (c1 lenD (c2 ixD (cVarB 0) (cK (.int 0))))))))) (sNx)
theorem e46 (k : Nat) (ds : List PyData) : Ev (k + 1) 46 ds = runC (t46 (Ev k)) ["contract", "number"] ["contract", "number"] ds := by kernel_rfl
def t47 (Φ : Ph) : CS := sSeq (disow [] (sSet 4 false (c2 ixD (c2 ixD (cVarB 0) (cK (.int 0))) (cVarB 1)))) (sSeq (disow [3] (sSet 5 true (c2 addD (c2 addD (cSl (cVarB 4) none (some (cVarB 2))) (cTup [cVar 3])) (cSl (cVarB 4) (some (c2 addD (cVarB 2) (cK (.int 1)))) none)))) (sSeq (disow [5] (sRet (cTup [c2 addD (c2 addD (cSl (c2 ixD (cVarB 0) (cK (.int 0))) none (some (cVarB 1))) (cTup [cVar 5])) (cSl (c2 ixD (cVarB 0) (cK (.int 0))) (some (c2 addD (cVarB 1) (cK (.int 1)))) none), c2 ixD (cVarB 0) (cK (.int 1))]))) (sNx)))
theorem e47 (k : Nat) (ds : List PyData) : Ev (k + 1) 47 ds = runC (t47 (Ev k)) ["contract", "number", "place", "numbers", "clause", "changed"] ["contract", "number", "place", "numbers"] ds := by kernel_rfl
def q48_0 (Φ : Ph) : CT := cTst (c2 isD (c2 ixD (c2 ixD (c2 ixD (cVarB 0) (cK (.int 0))) (cVarB 1)) (cVarB 4)) (cK .none))
def c48_0 (Φ : Ph) : CE := cVar 4
def t48 (Φ : Ph) : CS := sSeq (sIf (cNotT (cTst (cCall Φ 46 [cVarB 0, cVarB 1] [some 0, some 1]))) (sSeq (disow [1] (sRet (cTup [cK (.str "clause"), cVar 1]))) (sNx)) (sNx)) (sSeq (disow [4] (sSet 3 true (cComp (cItE (cLst [cK (.int 4), cK (.int 5)])) [4] (.one 4) (q48_0 Φ) (c48_0 Φ)))) (sSeq (sIf (cTst (c2 eqD (c1 lenD (cVarB 3)) (cK (.int 0)))) (sSeq (disow [1] (sRet (cTup [cK (.str "breach"), cVar 1]))) (sNx)) (sNx)) (sSeq (disow [] (sSet 5 false (c1 lenD (c2 ixD (cVarB 0) (cK (.int 0)))))) (sSeq (sIf (cTst (c2 gtD (c2 addD (cVarB 5) (c1 lenD (c2 ixD (cVarB 2) (cK (.int 0))))) (cK (.int 16)))) (sSeq (disow [] (sRet (cTup [cK (.str "many"), cK (.str "clauses"), cK (.int 16)]))) (sNx)) (sNx)) (sSeq (disow [] (sSet 6 false (cCall Φ 47 [cVarB 0, cVarB 1, c2 ixD (cVarB 3) (cK (.int 0)), cCall Φ 42 [c2 ixD (cVarB 2) (cK (.int 1)), cVarB 5] [none, some 5]] [some 0, some 1, none, none]))) (sSeq (disow [] (sRet (cTup [cK (.str "contract"), cTup [c2 addD (c2 ixD (cVarB 6) (cK (.int 0))) (cCall Φ 43 [cVarB 2, cVarB 5] [some 2, some 5]), c2 ixD (cVarB 6) (cK (.int 1))]]))) (sNx)))))))
theorem e48 (k : Nat) (ds : List PyData) : Ev (k + 1) 48 ds = runC (t48 (Ev k)) ["contract", "number", "second", "places", "place", "count", "mended"] ["contract", "number", "second"] ds := by kernel_rfl
def t49 (Φ : Ph) : CS := sSeq (sIf (cTst (c2 eqD (c2 ixD (cVarB 0) (cK (.int 0))) (cK (.str "must")))) (sSeq (disow [] (sRet (cK (.int 5)))) (sNx)) (sNx)) (sSeq (sIf (cTst (c2 eqD (c2 ixD (cVarB 0) (cK (.int 0))) (cK (.str "ban")))) (sSeq (disow [] (sRet (cK (.int 4)))) (sNx)) (sNx)) (sSeq (disow [] (sRet (c1 negD (cK (.int 1))))) (sNx)))
theorem e49 (k : Nat) (ds : List PyData) : Ev (k + 1) 49 ds = runC (t49 (Ev k)) ["clause"] ["clause"] ds := by kernel_rfl
def t50 (Φ : Ph) : CS := sSeq (sIf (cNotT (cTst (cCall Φ 46 [cVarB 0, cVarB 1] [some 0, some 1]))) (sSeq (disow [1] (sRet (cTup [cK (.str "clause"), cVar 1]))) (sNx)) (sNx)) (sSeq (disow [] (sSet 2 false (cCall Φ 49 [c2 ixD (c2 ixD (cVarB 0) (cK (.int 0))) (cVarB 1)] [none]))) (sSeq (sIf (cTst (c2 ltD (cVarB 2) (cK (.int 0)))) (sSeq (disow [1] (sRet (cTup [cK (.str "breach"), cVar 1]))) (sNx)) (sNx)) (sSeq (disow [] (sRet (cTup [cK (.str "contract"), cCall Φ 47 [cVarB 0, cVarB 1, cVarB 2, cK .none] [some 0, some 1, some 2, none]]))) (sNx))))
theorem e50 (k : Nat) (ds : List PyData) : Ev (k + 1) 50 ds = runC (t50 (Ev k)) ["contract", "number", "place"] ["contract", "number"] ds := by kernel_rfl
def q51_0 (Φ : Ph) : CT := cTst (c2 inD (cVarB 2) (cVarB 1))
def c51_0 (Φ : Ph) : CE := cMe indexD (cVarB 1) (cVarB 2)
def t51 (Φ : Ph) : CS := sSeq (sIf (cTst (c2 isD (cVarB 0) (cK .none))) (sSeq (disow [] (sRet (cK .none))) (sNx)) (sNx)) (sSeq (disow [] (sRet (c1 tupleD (cComp (cItE (cVarB 0)) [2] (.one 2) (q51_0 Φ) (c51_0 Φ))))) (sNx))
theorem e51 (k : Nat) (ds : List PyData) : Ev (k + 1) 51 ds = runC (t51 (Ev k)) ["numbers", "kept", "number"] ["numbers", "kept"] ds := by kernel_rfl
def q52_0 (Φ : Ph) : CT := cTst (c2 notInD (cVarB 3) (cVarB 1))
def c52_0 (Φ : Ph) : CE := cVar 3
def b52_0 (Φ : Ph) : CS := sSeq (disow [] (sSet 5 false (c2 ixD (c2 ixD (cVarB 0) (cK (.int 0))) (cVarB 3)))) (sSeq (disow [] (sApp 4 (c2 addD (cSl (cVarB 5) none (some (cK (.int 4)))) (cTup [cCall Φ 51 [c2 ixD (cVarB 5) (cK (.int 4)), cVarB 2] [none, some 2], cCall Φ 51 [c2 ixD (cVarB 5) (cK (.int 5)), cVarB 2] [none, some 2]])))) (sNx))
def t52 (Φ : Ph) : CS := sSeq (disow [3] (sSet 2 true (cComp (cRange1 (c1 lenD (c2 ixD (cVarB 0) (cK (.int 0))))) [3] (.one 3) (q52_0 Φ) (c52_0 Φ)))) (sSeq (disow [] (sSet 4 true (cLst []))) (sSeq (disow [2] (sFor (cItE (cVar 2)) (.one 3) (b52_0 Φ))) (sSeq (disow [] (sRet (cTup [cK (.str "contract"), cTup [c1 tupleD (cVarB 4), cCall Φ 51 [c2 ixD (cVarB 0) (cK (.int 1)), cVarB 2] [none, some 2]]]))) (sNx))))
theorem e52 (k : Nat) (ds : List PyData) : Ev (k + 1) 52 ds = runC (t52 (Ev k)) ["contract", "numbers", "kept", "number", "clauses", "clause"] ["contract", "numbers"] ds := by kernel_rfl
def b53_0 (Φ : Ph) : CS := sSeq (sIf (cNotT (cTst (cCall Φ 36 [cCall Φ 45 [cK (.str "all"), cVarB 0, cVarB 6, cVarB 0] [none, some 0, some 6, some 0], cCall Φ 52 [cVarB 0, cVarB 6] [some 0, some 6]] [none, none]))) (sSeq (disow [] (sRet (cK (.bool false)))) (sNx)) (sNx)) (sNx)
def b53_1 (Φ : Ph) : CS := sSeq (sIf (cNotT (cTst (cCall Φ 36 [cCall Φ 45 [cK (.str "all"), cVarB 0, cVarB 8, cVarB 0] [none, some 0, some 8, some 0], cTup [cK (.str "order")]] [none, none]))) (sSeq (disow [] (sRet (cK (.bool false)))) (sNx)) (sNx)) (sNx)
def t53 (Φ : Ph) : CS := sSeq (disow [1] (sSet 3 false (cTup [cK (.str "clause"), cVar 1]))) (sSeq (sIf (cTst (cCall Φ 46 [cVarB 0, cVarB 1] [some 0, some 1])) (sSeq (disow [1] (sSet 3 false (cCall Φ 52 [cVarB 0, cTup [cVar 1]] [some 0, none]))) (sNx)) (sNx)) (sSeq (sIf (cNotT (cTst (cCall Φ 36 [cCall Φ 45 [cK (.str "struck"), cVarB 0, cVarB 1, cVarB 0] [none, some 0, some 1, some 0], cVarB 3] [none, some 3]))) (sSeq (disow [] (sRet (cK (.bool false)))) (sNx)) (sNx)) (sSeq (disow [] (sSet 4 false (c1 lenD (c2 ixD (cVarB 0) (cK (.int 0)))))) (sSeq (disow [] (sSet 5 false (cCall Φ 39 [cVarB 2, cVarB 4, cK (.int 16)] [some 2, some 4, none]))) (sSeq (disow [5] (sFor (cItE (cLst [cVar 5, cTup [], cRgS false (cVarB 4)])) (.one 6) (b53_0 Φ))) (sSeq (disow [4] (sSet 7 true (cLst [c1 listD (cVarB 5), c2 addD (cTup [c1 negD (cK (.int 1))]) (cVarB 5), c2 addD (cVarB 5) (cTup [cVar 4]), cTup [cK (.bool true)], cK .none]))) (sSeq (sIf (cTst (c2 gtD (c1 lenD (cVarB 5)) (cK (.int 0)))) (sSeq (disow [] (sSet 7 true (c2 addD (cVarB 7) (cLst [c2 addD (cVarB 5) (cSl (cVarB 5) (some (c1 negD (cK (.int 1)))) none), c2 addD (cSl (cVarB 5) none (some (cK (.int 1)))) (cVarB 5)])))) (sNx)) (sNx)) (sSeq (sIf (cTst (c2 gtD (c1 lenD (cVarB 5)) (cK (.int 1)))) (sSeq (disow [] (sApp 7 (c1 revD (cVarB 5)))) (sNx)) (sNx)) (sSeq (disow [7] (sFor (cItE (cVar 7)) (.one 8) (b53_1 Φ))) (sSeq (disow [] (sRet (cK (.bool true)))) (sNx)))))))))))
theorem e53 (k : Nat) (ds : List PyData) : Ev (k + 1) 53 ds = runC (t53 (Ev k)) ["contract", "number", "mask", "due", "count", "numbers", "some", "wrong", "value"] ["contract", "number", "mask"] ds := by kernel_rfl
def b54_0 (Φ : Ph) : CS := sSeq (sIf (cTst (c2 isD (c2 ixD (cVarB 5) (c2 addD (cK (.int 4)) (c1 intD (c2 eqD (cVarB 6) (cK (.str "lapsed")))))) (cK .none))) (sSeq (disow [4, 6] (sApp 1 (cTup [cVar 4, cVar 6]))) (sNx)) (sNx)) (sNx)
def c54_0 (Φ : Ph) : CE := cIfE (cTst (c2 isD (cVarB 9) (cK .none))) (cTup []) (cVar 9)
def b54_1 (Φ : Ph) : CS := sSeq (disow [] (sSet 5 false (c2 ixD (c2 ixD (cVarB 0) (cK (.int 0))) (cVarB 4)))) (sSeq (disow [] (sFor (cItE (cLst [cK (.str "done"), cK (.str "lapsed")])) (.one 6) (b54_0 Φ))) (sSeq (disow [] (sSet 7 false (cIfE (cTst (c2 eqD (c2 ixD (cVarB 5) (cK (.int 0))) (cK (.str "ban")))) (cK .none) (c2 ixD (cVarB 5) (cK (.int 4)))))) (sSeq (disow [] (sSet 8 false (cIfE (cTst (c2 eqD (c2 ixD (cVarB 5) (cK (.int 0))) (cK (.str "must")))) (cK .none) (c2 ixD (cVarB 5) (cK (.int 5)))))) (sSeq (disow [7, 8] (sApp 2 (c2 addD (cSl (cVarB 5) none (some (cK (.int 4)))) (cTup [cVar 7, cVar 8])))) (sSeq (disow [9] (sApp 3 (c2 addD (cSl (cVarB 5) none (some (cK (.int 4)))) (c1 tupleD (cComp (cItE (cSl (cVarB 5) (some (cK (.int 4))) none)) [9] (.one 9) (tYesC) (c54_0 Φ)))))) (sNx))))))
def t54 (Φ : Ph) : CS := sSeq (disow [] (sSet 1 true (cLst []))) (sSeq (disow [] (sSet 2 true (cLst []))) (sSeq (disow [] (sSet 3 true (cLst []))) (sSeq (disow [] (sFor (cRange1 (c1 lenD (c2 ixD (cVarB 0) (cK (.int 0))))) (.one 4) (b54_1 Φ))) (sSeq (sIf (cNotT (cTst (cCall Φ 36 [cCall Φ 25 [cVarB 0] [some 0], cVarB 1] [none, some 1]))) (sSeq (disow [] (sRet (cK (.bool false)))) (sNx)) (sNx)) (sSeq (sIf (cNotT (cTst (cCall Φ 36 [cCall Φ 29 [cVarB 0] [some 0], cTup [c1 tupleD (cVarB 2), c2 ixD (cVarB 0) (cK (.int 1))]] [none, none]))) (sSeq (disow [] (sRet (cK (.bool false)))) (sNx)) (sNx)) (sSeq (disow [] (sRet (cCall Φ 36 [cCall Φ 31 [cVarB 0] [some 0], cTup [c1 tupleD (cVarB 3), c2 ixD (cVarB 0) (cK (.int 1))]] [none, none]))) (sNx)))))))
theorem e54 (k : Nat) (ds : List PyData) : Ev (k + 1) 54 ds = runC (t54 (Ev k)) ["contract", "places", "strict", "forgiving", "number", "clause", "ending", "done", "lapsed", "numbers"] ["contract"] ds := by kernel_rfl
def c55_0 (Φ : Ph) : CE := cVar 7
def b55_0 (Φ : Ph) : CS := sSeq (sIf (cNotT (cTst (cCall Φ 36 [cCall Φ 45 [cK (.str "with"), cVarB 4, cVarB 8, cVarB 5] [none, some 4, some 8, some 5], cCall Φ 48 [cVarB 4, cVarB 8, cVarB 5] [some 4, some 8, some 5]] [none, none]))) (sSeq (disow [] (sRet (cK (.bool false)))) (sNx)) (sNx)) (sSeq (sIf (cNotT (cTst (cCall Φ 36 [cCall Φ 45 [cK (.str "without"), cVarB 4, cVarB 8, cVarB 5] [none, some 4, some 8, some 5], cCall Φ 50 [cVarB 4, cVarB 8] [some 4, some 8]] [none, none]))) (sSeq (disow [] (sRet (cK (.bool false)))) (sNx)) (sNx)) (sNx))
def b55_1 (Φ : Ph) : CS := sSeq (sIf (cNotT (cTst (cCall Φ 53 [cVarB 4, cVarB 8, c2 ixD (cVarB 1) (cK (.int 6))] [some 4, some 8, none]))) (sSeq (disow [] (sRet (cK (.bool false)))) (sNx)) (sNx)) (sNx)
def t55 (Φ : Ph) : CS := sSeq (disow [] (sSet 1 false (cCall Φ 35 [cCall Φ 34 [cVarB 0, cK (.int 0)] [some 0, none], cLst [cK (.int 3), cK (.int 7), cK (.int 4), cK (.int 4), cK (.int 2), cK (.int 16), cK (.int 65536)]] [none, none]))) (sSeq (disow [] (sSet 2 false (c2 ixD (cVarB 1) (cK (.int 1))))) (sSeq (sIf (cTst (c2 eqD (c2 ixD (cVarB 1) (cK (.int 0))) (cK (.int 1)))) (sSeq (disow [] (sSet 2 true (c2 addD (cK (.int 13)) (c2 ixD (cVarB 1) (cK (.int 2)))))) (sNx)) (sNx)) (sSeq (disow [] (sSet 3 false (cCall Φ 38 [cCall Φ 34 [cVarB 0, cK (.int 1)] [some 0, none]] [none]))) (sSeq (disow [] (sSet 4 false (cCall Φ 41 [cVarB 0, cK (.int 2), cVarB 2, cVarB 3, c2 ixD (cLst [cK (.int 2), cK (.int 16)]) (c2 ixD (cVarB 1) (cK (.int 4)))] [some 0, none, some 2, some 3, none]))) (sSeq (disow [] (sSet 5 false (cCall Φ 41 [cVarB 0, cK (.int 19), c2 ixD (cVarB 1) (cK (.int 3)), cVarB 3, cK (.int 16)] [some 0, none, none, some 3, none]))) (sSeq (sIf (cOrT (cNotT (cTst (cCall Φ 54 [cVarB 4] [some 4]))) (cNotT (cTst (cCall Φ 54 [cVarB 5] [some 5])))) (sSeq (disow [] (sRet (cK (.bool false)))) (sNx)) (sNx)) (sSeq (disow [7, 2] (sSet 6 true (c2 addD (cComp (cRange1 (c2 min2D (cVarB 2) (cK (.int 6)))) [7] (.one 7) (tYesC) (c55_0 Φ)) (cLst [c1 negD (cK (.int 1)), cVar 2, cK (.bool true), cK .none, c2 modD (c1 intD (c2 ixD (cVarB 1) (cK (.int 5)))) (c2 max2D (cK (.int 1)) (cVarB 2))])))) (sSeq (disow [6] (sFor (cItE (cVar 6)) (.one 8) (b55_0 Φ))) (sSeq (disow [] (sFor (cItE (cSl (cVarB 6) (some (c1 negD (cK (.int 5)))) none)) (.one 8) (b55_1 Φ))) (sSeq (disow [] (sRet (cK (.bool true)))) (sNx)))))))))))
theorem e55 (k : Nat) (ds : List PyData) : Ev (k + 1) 55 ds = runC (t55 (Ev k)) ["script", "draws", "count", "pools", "contract", "second", "numbers", "k", "number"] ["script"] ds := by kernel_rfl
end Pv.K42


namespace Pv.K42
open PySem PySem.Spec L2
open PyProof.Rows hiding St
def isIntD : PyData → Bool
  | .int _ => true
  | _ => false
theorem v0 (k : Nat) (d : PyData) : Ev (k + 1) 0 [d] = .ok (.bool (isIntD d)) := by
  rw [e0]
  cases d <;> simp [t0, isIntD]
theorem v16 (k : Nat) (cs : List PyData) (op : PyData) : Ev (k + 1) 16 [.tuple [.tuple cs, op]] = .ok (.int cs.length) := by
  rw [e16]
  simp [t16]
theorem v8 (k : Nat) (a b c d e f : PyData) (z : Str) : Ev (k + 1) 8 [.tuple [a, b, c, d, e, f], .str z] = .ok (if z = "done" then e else f) := by
  rw [e8]
  have h4 : ixD (.tuple [a, b, c, d, e, f]) (.int 4) = .ok e := ixT_nat (i := 4) rfl
  have h5 : ixD (.tuple [a, b, c, d, e, f]) (.int 5) = .ok f := ixT_nat (i := 5) rfl
  by_cases h : z = "done" <;> simp [t8, h, h4, h5]
theorem v11 (k : Nat) (a : Str) (b c d e f : PyData) (z : Str) : Ev (k + 1) 11 [.tuple [.str a, b, c, d, e, f], .str z] = .ok (.bool (if z = "done" then decide (a = "ban") else decide (a = "must"))) := by
  rw [e11]
  by_cases h : z = "done" <;> simp [t11, h]
theorem v10 (k : Nat) (a b c d e f : PyData) (z : Str) : Ev (k + 2) 10 [.tuple [a, b, c, d, e, f], .str z] = .ok (.bool (isNoneD (if z = "done" then e else f))) := by
  rw [e10]
  simp [t10, v8]
theorem v9 (k : Nat) (a b c d e f : PyData) (z : Str) : Ev (k + 2) 9 [.tuple [a, b, c, d, e, f], .str z] = .ok (if isNoneD (if z = "done" then e else f) = true then .tuple [] else (if z = "done" then e else f)) := by
  rw [e9]
  by_cases h : isNoneD (if z = "done" then e else f) = true <;> simp [t9, v8, h]
theorem v23 (k : Nat) (a : Str) (b c d e f : PyData) : Ev (k + 2) 23 [.tuple [.str a, b, c, d, e, f]] = .ok (.str (if a = "ban" then "done" else if a = "must" then "lapsed" else "")) := by
  rw [e23]
  by_cases h1 : a = "ban"
  · subst h1; simp +decide [t23, b23_0, forL, v11]
  · by_cases h2 : a = "must"
    · subst h2; simp +decide [t23, b23_0, forL, v11]
    · simp [t23, b23_0, forL, v11, h1, h2]

/-! ### numbers -/
def numsD (lim : Int) : Int → List PyData → Bool
  | _, [] => true
  | least, d :: ds => match d with
    | .int n => decide (least ≤ n) && (decide (n < lim) && numsD lim (n + 1) ds)
    | _ => false
theorem v2 (k : Nat) (ds : List PyData) (lim : Int) : Ev (k + 2) 2 [.tuple ds, .int lim] = .ok (.bool (numsD lim 0 ds)) := by
  rw [e2]
  have loop : ∀ (ds : List PyData) (least : Int) (V w : Sl), (numsD lim least ds = true → ∃ ρ', forL (.one 3) (b2_0 (Ev (k + 1))) ds [V, .dat (.int lim) false, .dat (.int least) false, w] = .nx ρ') ∧
      (numsD lim least ds = false → forL (.one 3) (b2_0 (Ev (k + 1))) ds [V, .dat (.int lim) false, .dat (.int least) false, w] = .rt (.bool false)) := by
    intro ds
    induction ds with
    | nil => intro least V w; exact ⟨fun _ => ⟨_, rfl⟩, fun h => by cases h⟩
    | cons d ds ih =>
      intro least V w
      cases d with
      | int n =>
        by_cases h1 : least ≤ n
        · by_cases h2 : n < lim
          · have := ih (n + 1) V (.dat (.int n) false)
            simpa [forL, b2_0, v0, isIntD, numsD, h1, h2] using this
          · simp [forL, b2_0, v0, isIntD, numsD, h1, h2]
        · simp [forL, b2_0, v0, isIntD, numsD, h1]
      | _ => simp [forL, b2_0, v0, isIntD, numsD]
  have L := loop ds 0 (.dat (.tuple ds) false) .no
  cases h : numsD lim 0 ds with
  | true =>
    obtain ⟨ρ', e⟩ := L.1 h
    simp [t2, e]
  | false =>
    have e := L.2 h
    simp [t2, e]
theorem v2_no (k : Nat) (d : PyData) (lim : Int) (h : ∀ ds, d ≠ .tuple ds) : Ev (k + 2) 2 [d, .int lim] = .ok (.bool false) := by
  rw [e2]
  cases d <;> first | exact absurd rfl (h _) | simp [t2]
theorem v15 (k : Nat) (n lim : Int) : Ev (k + 2) 15 [.int n, .int lim] = .ok (.bool (decide (0 ≤ n) && decide (n < lim))) := by
  rw [e15]
  by_cases h : 0 ≤ n <;> simp [t15, v0, isIntD, h]
theorem v15_no (k : Nat) (d : PyData) (lim : Int) (h : isIntD d = false) : Ev (k + 2) 15 [d, .int lim] = .ok (.bool false) := by
  rw [e15]
  simp [t15, v0, h]
end Pv.K42


namespace Pv.K42
open PySem PySem.Spec L2
open PyProof.Rows hiding St

/-! ### values -/
def nT (l : List Int) : PyData := .tuple (l.map .int)
def nO : Option (List Int) → PyData
  | none => .none
  | some l => nT l
structure Cl where
  kd : Str
  pt : Str
  ac : Str
  dy : Int
  dn : Option (List Int)
  lp : Option (List Int)
def Cl.d (c : Cl) : PyData := .tuple [.str c.kd, .str c.pt, .str c.ac, .int c.dy, nO c.dn, nO c.lp]
structure Ct where
  cs : List Cl
  op : List Int
def Ct.d (c : Ct) : PyData := .tuple [.tuple (c.cs.map Cl.d), nT c.op]
/-- strictly ascending, from 0, below lim -/
def Asc (lim : Int) (l : List Int) : Prop := SAsc l ∧ ∀ n ∈ l, 0 ≤ n ∧ n < lim
def AscO (lim : Int) : Option (List Int) → Prop
  | none => True
  | some l => Asc lim l
def NmOk (p : Str) : Prop := ∀ k, Ev (k + 1) 1 [.str p] = .ok (.bool true)
structure Cl.Ok (c : Cl) : Prop where
  kd : c.kd = "must" ∨ c.kd = "may" ∨ c.kd = "ban"
  pt : NmOk c.pt
  ac : NmOk c.ac
  dy : 1 ≤ c.dy ∧ c.dy ≤ 30
  dn : AscO 16 c.dn
  lp : AscO 16 c.lp
  dn0 : c.dn = none → c.kd = "ban"
  lp0 : c.lp = none → c.kd = "must"
structure Ct.Ok (c : Ct) : Prop where
  few : c.cs.length ≤ 16
  cl : ∀ x ∈ c.cs, x.Ok ∧ AscO c.cs.length x.dn ∧ AscO c.cs.length x.lp
  op : Asc c.cs.length c.op
theorem numsD_asc {lim : Int} : ∀ {l : List Int} {a : Int}, SAsc l → (∀ n ∈ l, a ≤ n ∧ n < lim) → numsD lim a (l.map .int) = true
  | [], _, _, _ => rfl
  | x :: l, a, h, hb => by
    obtain ⟨h1, h2⟩ := List.pairwise_cons.mp h
    show (decide (a ≤ x) && (decide (x < lim) && numsD lim (x + 1) (l.map .int))) = true
    rw [numsD_asc h2 fun n hn => ⟨h1 n hn, (hb n (List.mem_cons_of_mem _ hn)).2⟩]
    have := hb x List.mem_cons_self
    simp [this]
theorem v2_asc (k : Nat) {l : List Int} {lim : Int} (h : Asc lim l) : Ev (k + 2) 2 [nT l, .int lim] = .ok (.bool true) := by
  rw [nT, v2, numsD_asc h.1 h.2]
theorem isNone_nT (l : List Int) : isNoneD (nT l) = false := rfl
theorem isNone_nO (o : Option (List Int)) : isNoneD (nO o) = o.isNone := by cases o <;> rfl
theorem v5 (k : Nat) (o : Option (List Int)) (b : Bool) (h : AscO 16 o) (hb : o = none → b = true) : Ev (k + 3) 5 [nO o, .bool b] = .ok (.bool true) := by
  rw [e5]
  cases o with
  | none =>
    have := hb rfl
    subst this
    simp [t5, nO, isNoneD]
  | some l => simp [t5, nO, isNone_nT, v2_asc (k := k) (l := l) (lim := 16) h]
theorem kdIn {kd : Str} (h : kd = "must" ∨ kd = "may" ∨ kd = "ban") : notInD (.str kd) (.tuple [.str "must", .str "may", .str "ban"]) = .ok (.bool false) := by
  rcases h with h | h | h <;> subst h <;> rfl
theorem v6 (k : Nat) (c : Cl) (h : c.Ok) : Ev (k + 4) 6 [c.d] = .ok (.str "") := by
  rw [e6]
  have d1 := h.dn0
  have d2 := h.lp0
  simp [t6, Cl.d, setAll, kdIn h.kd, h.pt (k + 2), h.ac (k + 2), v0, isIntD, h.dy.1, h.dy.2, v5 (k := k) (o := c.dn) (h := h.dn) (b := decide (c.kd = "ban")) (by simpa using h.dn0), v5 (k := k) (o := c.lp) (h := h.lp) (b := decide (c.kd = "must")) (by simpa using h.lp0)]
theorem v7 (k : Nat) (c : Cl) (h : c.Ok) : Ev (k + 5) 7 [c.d] = .ok (.bool true) := by
  have h6 := v6 k c h
  rw [e7]
  rw [Cl.d] at h6 ⊢
  simp +decide [t7, h6]
end Pv.K42


namespace Pv.K42
open PySem PySem.Spec L2
open PyProof.Rows hiding St

/-! ### numbers anew -/
theorem ixL_last (l : List Int) (x : Int) : ixD (.list (l.map .int ++ [.int x])) (.int (-1)) = .ok (.int x) := by
  have : atI (l.map PyData.int ++ [.int x]) (-1) = some (.int x) := by
    unfold atI ixN
    rw [if_neg (by omega)]
    simp
    rw [if_pos (by omega)]
    have : (-1 + ((l.length : Int) + 1)).toNat = l.length := by omega
    simp [this]
  simp only [ixD, this]
theorem v3 (k : Nat) (l : List Int) (h : SAsc l) (hl : l.length ≤ 1000) : Ev (k + 1) 3 [.list (l.map .int)] = .ok (nT l) := by
  rw [e3]
  obtain ⟨ρ', h1, y, rfl⟩ := forL_inv PyData.int (fun done ρ => ∃ y, ρ = [.dat (.list (l.map .int)) false, .dat (.list (done.map .int)) true, y]) (i := 2) (b := b3_0 (Ev k)) l (by
    rintro done a rest ρ e ⟨y, rfl⟩
    refine ⟨[.dat (.list (l.map .int)) false, .dat (.list ((done ++ [a]).map .int)) true, .dat (.int a) false], .inl ?_, _, rfl⟩
    have hlt : done.length < 16000000 := by
      have : l.length = done.length + (rest.length + 1) := by rw [e]; simp
      omega
    rcases List.eq_nil_or_concat done with rfl | ⟨d', x, rfl⟩
    · simp [b3_0]
    · have hx : x < a := by
        rw [e] at h
        exact (List.pairwise_append.mp h).2.2 x (by simp) a (by simp)
      have hne : ¬ (x = a) := by omega
      have hi := ixL_last d' x
      have hl0 : ¬ ((d'.length : Int) + 1 = 0) := by omega
      simp at hlt
      simp [b3_0, hi, hl0, neD_int, hne, hlt]) (ρ := [.dat (.list (l.map .int)) false, .dat (.list []) true, .no]) ⟨.no, rfl⟩
  simp [t3, sortD_asc l h, h1, nT]
theorem v4 (k : Nat) (l : List Int) (h : SAsc l) (hl : l.length ≤ 1000) : Ev (k + 2) 4 [.list (l.map .int), .tuple []] = .ok (nT l) := by
  rw [e4]
  have ha : addD (.list (l.map .int)) (.list []) = .ok (.list (l.map .int)) := by
    rw [addL _ _ (by simp [sizeLine]; omega), List.append_nil]
  simp [t4, ha, v3 k l h hl]
/-- the numbers by a table, those without a place left out -/
def rl (T : Int → Int) (l : List Int) : List Int := (l.filter fun n => decide (0 ≤ T n)).map T
theorem rl_len (T : Int → Int) (l : List Int) : (rl T l).length ≤ l.length := by
  unfold rl; simp; exact List.length_filter_le ..
theorem v12 (k : Nat) (o : Option (List Int)) (tb : PyData) (T : Int → Int) (hT : ∀ l, o = some l → (∀ n ∈ l, ixD tb (.int n) = .ok (.int (T n))) ∧ SAsc (rl T l) ∧ l.length ≤ 1000) : Ev (k + 3) 12 [nO o, tb] = .ok (nO (o.map (rl T))) := by
  rw [e12]
  cases o with
  | none => simp [t12, nO, isNoneD]
  | some l =>
    obtain ⟨h1, h2, h3⟩ := hT l rfl
    have hc := compL_on PyData.int (fun n => decide (0 ≤ T n)) (fun n => .int (T n)) (i := 2) (t := q12_0 (Ev (k + 2))) (e := c12_0 (Ev (k + 2))) (ρ := [.dat (nT l) false, .dat tb false, .no]) (l := l) (by
      intro n hn
      constructor
      · simp [q12_0, h1 n hn]
      · intro _; simp [c12_0, h1 n hn])
    have hv := v4 k (rl T l) h2 (Nat.le_trans (rl_len T l) h3)
    unfold rl at hv
    rw [List.map_map] at hv
    have hv' : Ev (k + 2) 4 [PyData.list (List.map (fun n => PyData.int (T n)) (List.filter (fun n => decide (0 ≤ T n)) l)), PyData.tuple []] = R.ok (nT (rl T l)) := hv
    simp [nT] at hc
    simp only [nT] at hv'
    simp [t12, nO, isNoneD, hc, hv', nT]
theorem cut4 (a b c d e f : PyData) : cutD [a, b, c, d, e, f] none (some 4) = [a, b, c, d] := cutD_to _ 4
theorem cut5 (a b c d e f : PyData) : cutD [a, b, c, d, e, f] none (some 5) = [a, b, c, d, e] := cutD_to _ 5
theorem ix4 (a b c d e f : PyData) : ixD (.tuple [a, b, c, d, e, f]) (.int 4) = .ok e := ixT_nat (i := 4) rfl
theorem ix5 (a b c d e f : PyData) : ixD (.tuple [a, b, c, d, e, f]) (.int 5) = .ok f := ixT_nat (i := 5) rfl
theorem add42 (a b c d e f : PyData) : addD (.tuple [a, b, c, d]) (.tuple [e, f]) = .ok (.tuple [a, b, c, d, e, f]) := addT _ _ (show 6 ≤ sizeLine by decide)
theorem add51 (a b c d e f : PyData) : addD (.tuple [a, b, c, d, e]) (.tuple [f]) = .ok (.tuple [a, b, c, d, e, f]) := addT _ _ (show 6 ≤ sizeLine by decide)
def Cl.relink (c : Cl) (T : Int → Int) : Cl := { c with dn := c.dn.map (rl T), lp := c.lp.map (rl T) }
theorem v13 (k : Nat) (c : Cl) (tb : PyData) (T : Int → Int) (h1 : ∀ l, c.dn = some l → (∀ n ∈ l, ixD tb (.int n) = .ok (.int (T n))) ∧ SAsc (rl T l) ∧ l.length ≤ 1000) (h2 : ∀ l, c.lp = some l → (∀ n ∈ l, ixD tb (.int n) = .ok (.int (T n))) ∧ SAsc (rl T l) ∧ l.length ≤ 1000) : Ev (k + 4) 13 [c.d, tb] = .ok (c.relink T).d := by
  rw [e13]
  have a1 := v12 k c.dn tb T h1
  have a2 := v12 k c.lp tb T h2
  simp [t13, Cl.d, ix4, ix5, a1, a2, slD, cut4, add42, add51, Cl.relink]
theorem v14_done (k : Nat) (c : Cl) (o : Option (List Int)) (h : Cl.Ok { c with dn := o }) : Ev (k + 6) 14 [c.d, .str "done", nO o] = .ok (Cl.d { c with dn := o }) := by
  rw [e14]
  have a1 := v7 k _ h
  rw [Cl.d] at a1
  simp only at a1
  simp [t14, Cl.d, ix4, ix5, slD, cut4, add42, add51, a1]
theorem v14_lapsed (k : Nat) (c : Cl) (o : Option (List Int)) (h : Cl.Ok { c with lp := o }) : Ev (k + 6) 14 [c.d, .str "lapsed", nO o] = .ok (Cl.d { c with lp := o }) := by
  rw [e14]
  have a1 := v7 k _ h
  rw [Cl.d] at a1
  simp only at a1
  simp +decide [t14, Cl.d, ix4, ix5, slD, cut5, add42, add51, a1]
/-! ### moved numbers -/
def mv (by_ : Int) (l : List Int) : List Int := l.map (· + by_)
theorem v21 (k : Nat) (l : List Int) (b : Int) : Ev (k + 1) 21 [nT l, .int b] = .ok (nT (mv b l)) := by
  rw [e21]
  have hc := compL_on_all PyData.int (fun n => .int (n + b)) (i := 2) (e := c21_0 (Ev k)) (ρ := [.dat (nT l) false, .dat (.int b) false, .no]) (l := l) (by
    intro n hn; simp [c21_0])
  have : tYesC = tYesC := rfl
  simp [nT] at hc
  simp [t21, nT, hc, mv]
theorem v42 (k : Nat) (o : Option (List Int)) (b : Int) : Ev (k + 1) 42 [nO o, .int b] = .ok (nO (o.map (mv b))) := by
  rw [e42]
  cases o with
  | none => simp [t42, nO, isNoneD]
  | some l =>
    have hc := compL_on_all PyData.int (fun n => .int (n + b)) (i := 2) (e := c42_0 (Ev k)) (ρ := [.dat (nT l) false, .dat (.int b) false, .no]) (l := l) (by
      intro n hn; simp [c42_0])
    simp [nT] at hc
    simp [t42, nO, nT, isNoneD, hc, mv]
end Pv.K42


namespace Pv.K42
open PySem PySem.Spec L2
open PyProof.Rows hiding St

/-! ### contracts -/
theorem fl1 : G.flds "NoSuchClause" = (["number"] : List Str) := by rfl
theorem fl2 : G.flds "NoBreach" = (["number"] : List Str) := by rfl
theorem fl3 : G.flds "TooMany" = (["limit", "what"] : List Str) := by rfl
theorem fl4 : G.flds "InvalidOrder" = ([] : List Str) := by rfl
def hasN (n : Nat) : PyData → Bool
  | .int i => decide (0 ≤ i) && decide (i < n)
  | _ => false
theorem hasN_int {n : Nat} {d : PyData} (h : hasN n d = true) : ∃ i : Nat, i < n ∧ d = .int i := by
  cases d <;> simp [hasN] at h
  rename_i i
  exact ⟨i.toNat, by omega, by rw [Int.toNat_of_nonneg h.1]⟩
theorem ct_len (c : Ct) : (c.cs.map Cl.d).length = c.cs.length := List.length_map ..
theorem w15 (k : Nat) (n : Nat) (d : PyData) : Ev (k + 2) 15 [d, .int n] = .ok (.bool (hasN n d)) := by
  cases d with
  | int i => rw [v15]; rfl
  | _ => exact v15_no k _ _ rfl
theorem w16 (k : Nat) (c : Ct) : Ev (k + 1) 16 [c.d] = .ok (.int c.cs.length) := by
  rw [Ct.d, nT, v16, List.length_map]
theorem v17 (k : Nat) (c : Ct) (i : Nat) (x : Cl) (h : c.cs[i]? = some x) : Ev (k + 3) 17 [c.d, .int i] = .ok x.d := by
  rw [e17]
  have hi := (List.getElem?_eq_some_iff.mp h).1
  have a0 : hasN c.cs.length (.int i) = true := by simp [hasN]; omega
  have a1 := w15 k c.cs.length (.int i)
  rw [a0] at a1
  have a2 := w16 (k + 1) c
  have a3 : ixD (.tuple (c.cs.map Cl.d)) (.int i) = .ok x.d := ixT_nat (by simp [h])
  rw [Ct.d] at a2 ⊢
  simp [t17, a1, a2, a3]
theorem v17_no (k : Nat) (c : Ct) (d : PyData) (h : hasN c.cs.length d = false) : Ev (k + 3) 17 [c.d, d] = .exc "NoSuchClause" [d] := by
  rw [e17]
  have a1 := w15 k c.cs.length d
  rw [h] at a1
  have a2 := w16 (k + 1) c
  simp [t17, a1, a2, fl1]
theorem v46 (k : Nat) (c : Ct) (d : PyData) : Ev (k + 1) 46 [c.d, d] = .ok (.bool (hasN c.cs.length d)) := by
  rw [e46, Ct.d]
  cases d with
  | int i => by_cases h : 0 ≤ i <;> simp [t46, hasN, h]
  | _ => simp [t46, hasN]
theorem v20 (k : Nat) (n : Nat) (h : n ≤ 16) : Ev (k + 1) 20 [.int n] = .ok .none := by
  rw [e20]
  have : ¬ (16 < (n : Int)) := by omega
  simp [t20, this]
theorem v20_no (k : Nat) (n : Nat) (h : 16 < n) : Ev (k + 1) 20 [.int n] = .exc "TooMany" [.int 16, .str "clauses"] := by
  rw [e20]
  have : 16 < (n : Int) := by omega
  simp [t20, this, fl3]
theorem v23c (k : Nat) (c : Cl) : Ev (k + 2) 23 [c.d] = .ok (.str (if c.kd = "ban" then "done" else if c.kd = "must" then "lapsed" else "")) := v23 ..
theorem v10c (k : Nat) (c : Cl) (z : Str) : Ev (k + 2) 10 [c.d, .str z] = .ok (.bool (if z = "done" then c.dn.isNone else c.lp.isNone)) := by
  rw [Cl.d, v10]
  by_cases h : z = "done" <;> simp [h, isNone_nO]
theorem v9c (k : Nat) (c : Cl) (z : Str) : Ev (k + 2) 9 [c.d, .str z] = .ok (nT ((if z = "done" then c.dn else c.lp).getD [])) := by
  rw [Cl.d, v9]
  by_cases h : z = "done"
  · cases hd : c.dn <;> simp [h, hd, nO, nT, isNoneD]
  · cases hd : c.lp <;> simp [h, hd, nO, nT, isNoneD]
/-! one clause anew -/
def Ct.setC (c : Ct) (i : Nat) (x : Cl) : Ct := { c with cs := c.cs.set i x }
theorem set_parts (cs : List Cl) (i : Nat) (x : Cl) (h : i < cs.length) : (cs.map Cl.d).take i ++ [x.d] ++ (cs.map Cl.d).drop (i + 1) = (cs.set i x).map Cl.d := by
  rw [List.set_eq_take_append_cons_drop, if_pos h]
  simp [List.map_take, List.map_drop]
theorem add_parts (ds : List PyData) (i : Nat) (x : PyData) (h : ds.length ≤ 1000) : addD (.tuple (ds.take i)) (.tuple [x]) = .ok (.tuple (ds.take i ++ [x])) ∧ addD (.tuple (ds.take i ++ [x])) (.tuple (ds.drop (i + 1))) = .ok (.tuple (ds.take i ++ [x] ++ ds.drop (i + 1))) := by
  have e : sizeLine = 16777216 := rfl
  constructor
  · apply addT; rw [e]; simp; omega
  · apply addT; rw [e]; simp; omega
theorem v24 (k : Nat) (c : Ct) (i : Nat) (x : Cl) (h : i < c.cs.length) (hl : c.cs.length ≤ 1000) : Ev (k + 1) 24 [c.d, .int i, x.d] = .ok (c.setC i x).d := by
  rw [e24, Ct.d]
  have a1 := cutD_to (c.cs.map Cl.d) i
  have a2 : cutD (c.cs.map Cl.d) (some ((i : Int) + 1)) none = (c.cs.map Cl.d).drop (i + 1) := cutD_from (c.cs.map Cl.d) (i + 1)
  obtain ⟨a3, a4⟩ := add_parts (c.cs.map Cl.d) i x.d (by simpa using hl)
  rw [set_parts _ _ _ h] at a4
  simp only [Cl.d] at a1 a2 a3 a4 ⊢
  simp [t24, slD, a1, a2, a3, a4, Ct.d, Ct.setC, Cl.d]
end Pv.K42


namespace Pv.K42
open PySem PySem.Spec L2
open PyProof.Rows hiding St

/-! ### shifted clauses -/
theorem asc_mv {l : List Int} (b : Int) (h : SAsc l) : SAsc (mv b l) := by
  unfold mv SAsc
  rw [List.pairwise_map]
  exact h.imp fun h => by omega
theorem rl_mv {l : List Int} (b : Int) (h : ∀ n ∈ l, 0 ≤ n + b) : rl (· + b) l = mv b l := by
  unfold rl mv
  rw [List.filter_eq_self.mpr]
  intro n hn
  simpa using h n hn
def Cl.shift (b : Int) (c : Cl) : Cl := { c with dn := c.dn.map (mv b), lp := c.lp.map (mv b) }
def upTo (n : Nat) : List Int := (List.range n).map Int.ofNat
theorem upTo_get (n i : Nat) (h : i < n) : (upTo n)[i]? = some (i : Int) := by
  unfold upTo
  simp [h]
theorem natD_upTo (n : Nat) : (List.range n).map natD = (upTo n).map .int := by
  unfold upTo
  rw [List.map_map]
  rfl
theorem asc_len {lim : Nat} {l : List Int} (h : Asc lim l) : l.length ≤ lim := by
  have : ∀ (l : List Int) (a : Int), SAsc l → (∀ n ∈ l, a ≤ n ∧ n < lim) → a + l.length ≤ max a lim := by
    intro l
    induction l with
    | nil => intro a _ _; simp; omega
    | cons x l ih =>
      intro a h1 h2
      obtain ⟨h3, h4⟩ := List.pairwise_cons.mp h1
      have hx := h2 x List.mem_cons_self
      have := ih (x + 1) h4 fun n hn => ⟨by have := h3 n hn; omega, (h2 n (List.mem_cons_of_mem _ hn)).2⟩
      simp
      omega
  have := this l 0 h.1 h.2
  omega
theorem tb_mv (n : Nat) (b : Int) (i : Int) (h : 0 ≤ i ∧ i < n) : ixD (nT (mv b (upTo n))) (.int i) = .ok (.int (i + b)) := by
  obtain ⟨j, rfl⟩ := Int.eq_ofNat_of_zero_le h.1
  apply ixT_nat
  unfold mv
  simp [upTo_get n j (by omega)]
theorem w22H (Φ : Ph) (s : Ct) (b : Nat) (h : s.Ok) (h16 : Φ 16 [s.d] = .ok (.int s.cs.length)) (h21 : Φ 21 [.tuple ((upTo s.cs.length).map .int), .int b] = .ok (nT (mv b (upTo s.cs.length)))) (hc : compL (Tg.one 3) tYesC (c22_0 Φ) [.dat s.d false, .dat (.int b) false, .dat (nT (mv b (upTo s.cs.length))) false, .no] (s.cs.map Cl.d) = R.ok (s.cs.map fun c => (c.shift b).d)) : runC (t22 Φ) ["contract", "by", "table", "clause"] ["contract", "by"] [s.d, .int b] = .ok (.tuple (s.cs.map fun c => (c.shift b).d)) := by
  have hr := cRange1_nat (n := s.cs.length) (a := cCall Φ 16 [cVarB 0] [some 0]) (ρ := [.dat s.d false, .dat (.int b) false, .no, .no]) (by simp [h16]) (Nat.le_trans h.few (by decide))
  rw [natD_upTo] at hr
  have a3 : ixD s.d (.int 0) = .ok (.tuple (s.cs.map Cl.d)) := ixT_0 ..
  simp [-cRange1_ap, t22, hr, h21, a3, hc]
theorem v22 (k : Nat) (s : Ct) (b : Nat) (h : s.Ok) : Ev (k + 5) 22 [s.d, .int b] = .ok (.tuple ((s.cs.map (Cl.shift b)).map Cl.d)) := by
  rw [e22]
  have hc := compL_on_all Cl.d (fun c => (c.shift b).d) (i := 3) (e := c22_0 (Ev (k + 4))) (ρ := [.dat s.d false, .dat (.int b) false, .dat (nT (mv b (upTo s.cs.length))) false, .no]) (l := s.cs) (by
    intro c hcm
    obtain ⟨_, g1, g2⟩ := h.cl c hcm
    have key : ∀ l, Asc s.cs.length l → (∀ n ∈ l, ixD (nT (mv b (upTo s.cs.length))) (.int n) = .ok (.int (n + b))) ∧ SAsc (rl (· + (b : Int)) l) ∧ l.length ≤ 1000 := by
      intro l hl
      refine ⟨fun n hn => tb_mv _ _ _ (hl.2 n hn), ?_, Nat.le_trans (asc_len hl) (Nat.le_trans h.few (by decide))⟩
      rw [rl_mv _ fun n hn => by have := (hl.2 n hn).1; omega]
      exact asc_mv _ hl.1
    have hv := v13 k c (nT (mv b (upTo s.cs.length))) (· + (b : Int)) (fun l e => key l (by rw [e] at g1; exact g1)) (fun l e => key l (by rw [e] at g2; exact g2))
    have hr : c.relink (· + (b : Int)) = c.shift b := by
      have kk : ∀ o, AscO s.cs.length o → o.map (rl (· + (b : Int))) = o.map (mv b) := by
        intro o ho
        cases o with
        | none => rfl
        | some l => exact congrArg some (rl_mv _ fun n hn => by have := (ho.2 n hn).1; omega)
      unfold Cl.relink Cl.shift
      rw [kk _ g1, kk _ g2]
    rw [hr] at hv
    simp [c22_0, hv])
  have := w22H (Ev (k + 4)) s b h (w16 (k + 3) s) (v21 (k + 3) (upTo s.cs.length) b) hc
  rw [List.map_map]
  exact this
theorem v43 (k : Nat) (s : Ct) (b : Nat) (h : s.Ok) : Ev (k + 2) 43 [s.d, .int b] = .ok (.tuple ((s.cs.map (Cl.shift b)).map Cl.d)) := by
  rw [e43]
  obtain ⟨ρ', h1, y, rfl⟩ := forL_inv Cl.d (fun done ρ => ∃ y, ρ = [.dat s.d false, .dat (.int b) false, .dat (.list ((done.map (Cl.shift b)).map Cl.d)) true, y]) (i := 3) (b := b43_0 (Ev (k + 1))) s.cs (by
    rintro done a rest ρ e ⟨y, rfl⟩
    refine ⟨[.dat s.d false, .dat (.int b) false, .dat (.list (((done ++ [a]).map (Cl.shift b)).map Cl.d)) true, .dat a.d false], .inl ?_, _, rfl⟩
    have hlt : done.length < 16000000 := by
      have : s.cs.length = done.length + (rest.length + 1) := by rw [e]; simp
      have := h.few
      omega
    have a1 := v42 k a.dn b
    have a2 := v42 k a.lp b
    simp [b43_0, Cl.d, ix4, ix5, slD, cut4, a1, a2, add42, hlt, Cl.shift]) (ρ := [.dat s.d false, .dat (.int b) false, .dat (.list []) true, .no]) ⟨.no, rfl⟩
  rw [Ct.d] at h1 ⊢
  simp [t43, h1]
theorem v47 (k : Nat) (c : Ct) (i : Nat) (x y : Cl) (p : Int) (o : Option (List Int)) (h : c.cs[i]? = some x) (hl : c.cs.length ≤ 1000) (hp : (p = 4 ∧ y = { x with dn := o }) ∨ (p = 5 ∧ y = { x with lp := o })) : Ev (k + 1) 47 [c.d, .int i, .int p, nO o] = .ok (c.setC i y).d := by
  rw [e47]
  have hi := (List.getElem?_eq_some_iff.mp h).1
  have a0 : ixD (.tuple (c.cs.map Cl.d)) (.int i) = .ok x.d := ixT_nat (by simp [h])
  have a1 := cutD_to (c.cs.map Cl.d) i
  have a2 : cutD (c.cs.map Cl.d) (some ((i : Int) + 1)) none = (c.cs.map Cl.d).drop (i + 1) := cutD_from (c.cs.map Cl.d) (i + 1)
  obtain ⟨a3, a4⟩ := add_parts (c.cs.map Cl.d) i y.d (by simpa using hl)
  rw [set_parts _ _ _ hi] at a4
  have a5 : ∀ a b c d e f : PyData, cutD [a, b, c, d, e, f] (some 5) none = [f] := fun a b c d e f => cutD_from _ 5
  have a6 : ∀ a b c d e f : PyData, cutD [a, b, c, d, e, f] (some 6) none = [] := fun a b c d e f => cutD_from _ 6
  have a7 : ∀ a b c d e : PyData, addD (.tuple [a, b, c, d]) (.tuple [e]) = .ok (.tuple [a, b, c, d, e]) := fun a b c d e => addT _ _ (show 5 ≤ sizeLine by decide)
  have a8 : ∀ a b c d e f : PyData, addD (.tuple [a, b, c, d, e, f]) (.tuple []) = .ok (.tuple [a, b, c, d, e, f]) := fun a b c d e f => addT _ _ (show 6 ≤ sizeLine by decide)
  rw [Ct.d] at ⊢
  rcases hp with ⟨rfl, rfl⟩ | ⟨rfl, rfl⟩
  · simp only [Cl.d] at a0 a1 a2 a3 a4 ⊢
    simp [t47, slD, a0, a1, a2, a3, a4, a5, a7, cut4, add51, Ct.d, Ct.setC, Cl.d]
  · simp only [Cl.d] at a0 a1 a2 a3 a4 ⊢
    simp [t47, slD, a0, a1, a2, a3, a4, a6, a8, cut5, add51, Ct.d, Ct.setC, Cl.d]
end Pv.K42


namespace Pv.K42
open PySem PySem.Spec L2
open PyProof.Rows hiding St

/-! ### remedies -/
def Cl.fault (c : Cl) : Str := if c.kd = "ban" then "done" else if c.kd = "must" then "lapsed" else ""
def Cl.brk (c : Cl) : Bool := c.dn.isNone || c.lp.isNone
def Cl.mend (x : Cl) (l : List Int) : Cl := if x.dn.isNone = true then { x with dn := some l } else { x with lp := some l }
def Cl.strict (c : Cl) : Cl := if c.kd = "ban" then { c with dn := none } else if c.kd = "must" then { c with lp := none } else c
def Ct.join (c s : Ct) (n : Nat) : Ct := { c with cs := c.cs ++ s.cs.map (Cl.shift n) }
theorem Cl.Ok.strict {c : Cl} (h : c.Ok) : c.strict.Ok := by
  unfold Cl.strict
  split
  · exact ⟨h.kd, h.pt, h.ac, h.dy, trivial, h.lp, fun _ => by assumption, h.lp0⟩
  · split
    · exact ⟨h.kd, h.pt, h.ac, h.dy, h.dn, trivial, h.dn0, fun _ => by assumption⟩
    · exact h
theorem Cl.Ok.mend {c : Cl} (h : c.Ok) {l : List Int} (hl : Asc 16 l) : (c.mend l).Ok := by
  unfold Cl.mend
  split
  · exact ⟨h.kd, h.pt, h.ac, h.dy, hl, h.lp, (fun e => nomatch e), h.lp0⟩
  · exact ⟨h.kd, h.pt, h.ac, h.dy, h.dn, hl, h.dn0, (fun e => nomatch e)⟩
/-- the law's fault ending and a breach there -/
theorem v10f {c : Cl} (h : c.Ok) (k : Nat) (hf : c.fault ≠ "") : Ev (k + 2) 10 [c.d, .str c.fault] = .ok (.bool c.brk) := by
  rw [v10c]
  congr 2
  have e : ¬ (("lapsed" : Str) = "done") := by decide
  unfold Cl.fault at hf ⊢
  unfold Cl.brk
  by_cases h1 : c.kd = "ban"
  · have h2 : c.lp.isNone = false := by
      cases hl : c.lp with
      | none => have := h.lp0 hl; rw [h1] at this; exact absurd this (by decide)
      | some l => rfl
    simp [h1, h2]
  · by_cases h3 : c.kd = "must"
    · have h2 : c.dn.isNone = false := by
        cases hl : c.dn with
        | none => exact absurd (h.dn0 hl) h1
        | some l => rfl
      have e2 : ¬ (("must" : Str) = "ban") := by decide
      simp only [h3, h2, e2, e, if_true, if_false, Bool.false_or]
    · simp [h1, h3] at hf
theorem v14f {c : Cl} (h : c.Ok) (k : Nat) {l : List Int} (hl : Asc 16 l) (hb : c.brk = true) : c.fault ≠ "" ∧ Ev (k + 6) 14 [c.d, .str c.fault, nT l] = .ok (c.mend l).d := by
  have hm := h.mend hl
  unfold Cl.brk at hb
  unfold Cl.mend at hm ⊢
  cases hd : c.dn with
  | none =>
    have h1 := h.dn0 hd
    rw [hd] at hm
    have : c.fault = "done" := by unfold Cl.fault; rw [if_pos h1]
    rw [this]
    refine ⟨by decide, ?_⟩
    simp only [Option.isNone_none, if_true] at hm ⊢
    exact v14_done k c (some l) hm
  | some m =>
    rw [hd] at hb hm
    cases hl2 : c.lp with
    | some m2 => rw [hl2] at hb; exact absurd hb (by simp)
    | none =>
      have h1 := h.lp0 hl2
      have : c.fault = "lapsed" := by
        unfold Cl.fault; rw [h1]; decide
      rw [this]
      refine ⟨by decide, ?_⟩
      simp only [Option.isNone_some, Bool.false_eq_true, if_false] at hm ⊢
      rw [← hd] at hm
      have := v14_lapsed k c (some l) hm
      rw [hd] at this
      exact this
theorem u27 (Φ : Ph) (d r : PyData) (z : Str) (h23 : Φ 23 [d] = .ok (.str z)) (h14 : z ≠ "" → Φ 14 [d, .str z, .none] = .ok r) (h0 : z = "" → d = r) : runC (t27 Φ) ["clause", "ending"] ["clause"] [d] = .ok r := by
  by_cases h : z = ""
  · obtain rfl := h0 h
    subst h
    simp [t27, h23]
  · simp [t27, h23, h, h14 h]
theorem v27 {c : Cl} (h : c.Ok) (k : Nat) : Ev (k + 7) 27 [c.d] = .ok c.strict.d := by
  have hs := h.strict
  rw [e27]
  refine u27 _ _ _ c.fault (v23c (k + 4) c) ?_ ?_
  · intro hf
    unfold Cl.strict at hs ⊢
    by_cases h1 : c.kd = "ban"
    · have e : c.fault = "done" := by unfold Cl.fault; rw [if_pos h1]
      rw [if_pos h1] at hs ⊢
      rw [e]
      exact v14_done k c none hs
    · by_cases h3 : c.kd = "must"
      · have e : c.fault = "lapsed" := by unfold Cl.fault; rw [if_neg h1, if_pos h3]
        rw [if_neg h1, if_pos h3] at hs ⊢
        rw [e]
        exact v14_lapsed k c none hs
      · exact absurd (by unfold Cl.fault; rw [if_neg h1, if_neg h3]) hf
  · intro hf
    unfold Cl.fault at hf
    unfold Cl.strict
    by_cases h1 : c.kd = "ban"
    · rw [if_pos h1] at hf; exact absurd hf (by decide)
    · by_cases h3 : c.kd = "must"
      · rw [if_neg h1, if_pos h3] at hf; exact absurd hf (by decide)
      · rw [if_neg h1, if_neg h3]
/-! with_remedy -/
theorem u26_no (Φ : Ph) (c d s : PyData) (h17 : Φ 17 [c, d] = .exc "NoSuchClause" [d]) : runC (t26 Φ) ["contract", "number", "second", "clause", "ending", "count", "mended", "clauses", "opening"] ["contract", "number", "second"] [c, d, s] = .exc "NoSuchClause" [d] := by
  simp [t26, h17]
theorem u26_nb (Φ : Ph) (c d s x : PyData) (z : Str) (h17 : Φ 17 [c, d] = .ok x) (h23 : Φ 23 [x] = .ok (.str z)) (h10 : z ≠ "" → Φ 10 [x, .str z] = .ok (.bool false)) : runC (t26 Φ) ["contract", "number", "second", "clause", "ending", "count", "mended", "clauses", "opening"] ["contract", "number", "second"] [c, d, s] = .exc "NoBreach" [d] := by
  by_cases h : z = ""
  · simp [t26, h17, h23, h, fl2]
  · simp [t26, h17, h23, h, h10 h, fl2]
theorem u26_many (Φ : Ph) (c d s x : PyData) (z : Str) (n m : Int) (h17 : Φ 17 [c, d] = .ok x) (h23 : Φ 23 [x] = .ok (.str z)) (hz : z ≠ "") (h10 : Φ 10 [x, .str z] = .ok (.bool true)) (h16 : Φ 16 [c] = .ok (.int n)) (h16s : Φ 16 [s] = .ok (.int m)) (h20 : Φ 20 [.int (n + m)] = .exc "TooMany" [.int 16, .str "clauses"]) : runC (t26 Φ) ["contract", "number", "second", "clause", "ending", "count", "mended", "clauses", "opening"] ["contract", "number", "second"] [c, d, s] = .exc "TooMany" [.int 16, .str "clauses"] := by
  simp [t26, h17, h23, hz, h10, h16, h16s, h20]
theorem u26_ok (Φ : Ph) (c d s x y op l A B : PyData) (As Bs : List PyData) (sc : List PyData) (z : Str) (n m : Int) (h17 : Φ 17 [c, d] = .ok x) (h23 : Φ 23 [x] = .ok (.str z)) (hz : z ≠ "") (h10 : Φ 10 [x, .str z] = .ok (.bool true)) (h16 : Φ 16 [c] = .ok (.int n)) (h16s : Φ 16 [s] = .ok (.int m)) (h20 : Φ 20 [.int (n + m)] = .ok .none)
    (hop : ixD s (.int 1) = .ok op) (h21 : Φ 21 [op, .int n] = .ok l) (h14 : Φ 14 [x, .str z, l] = .ok y) (h24 : Φ 24 [c, d, y] = .ok (.tuple [.tuple As, B])) (h22 : Φ 22 [s, .int n] = .ok (.tuple Bs)) (hl : As.length + Bs.length ≤ sizeLine) : runC (t26 Φ) ["contract", "number", "second", "clause", "ending", "count", "mended", "clauses", "opening"] ["contract", "number", "second"] [c, d, s] = .ok (.tuple [.tuple (As ++ Bs), B]) := by
  have ha := addT As Bs hl
  simp [t26, h17, h23, hz, h10, h16, h16s, h20, hop, h21, h14, h24, h22, ha, setAll]
theorem u28_no (Φ : Ph) (c d : PyData) (h17 : Φ 17 [c, d] = .exc "NoSuchClause" [d]) : runC (t28 Φ) ["contract", "number", "clause"] ["contract", "number"] [c, d] = .exc "NoSuchClause" [d] := by
  simp [t28, h17]
theorem u28_nb (Φ : Ph) (c d x : PyData) (h17 : Φ 17 [c, d] = .ok x) (h23 : Φ 23 [x] = .ok (.str "")) : runC (t28 Φ) ["contract", "number", "clause"] ["contract", "number"] [c, d] = .exc "NoBreach" [d] := by
  simp [t28, h17, h23, fl2]
theorem u28_ok (Φ : Ph) (c d x y r : PyData) (z : Str) (h17 : Φ 17 [c, d] = .ok x) (h23 : Φ 23 [x] = .ok (.str z)) (hz : z ≠ "") (h27 : Φ 27 [x] = .ok y) (h24 : Φ 24 [c, d, y] = .ok r) : runC (t28 Φ) ["contract", "number", "clause"] ["contract", "number"] [c, d] = .ok r := by
  simp [t28, h17, h23, hz, h27, h24]
end Pv.K42


namespace Pv.K42
open PySem PySem.Spec L2
open PyProof.Rows hiding St

/-! ### the law's own remedies -/
theorem u48_no (Φ : Ph) (c d s : PyData) (h46 : Φ 46 [c, d] = .ok (.bool false)) : runC (t48 Φ) ["contract", "number", "second", "places", "place", "count", "mended"] ["contract", "number", "second"] [c, d, s] = .ok (.tuple [.str "clause", d]) := by
  simp [t48, h46]
/-- the places of a clause without a list -/
def plc (a b : Bool) : List Int := (if a = true then [4] else []) ++ (if b = true then [5] else [])
theorem q48 (Φ : Ph) (cs : PyData) (op d s : PyData) (a b : PyData) (x : List PyData) (h1 : ixD cs d = .ok (.tuple x)) (h4 : ixD (.tuple x) (.int 4) = .ok a) (h5 : ixD (.tuple x) (.int 5) = .ok b) (ρ : En) (hρ : ρ = [.dat (.tuple [cs, op]) false, .dat d false, .dat s false, .no, .no, .no, .no]) : compL (.one 4) (q48_0 Φ) (c48_0 Φ) ρ [.int 4, .int 5] = .ok ((plc (isNoneD a) (isNoneD b)).map .int) := by
  subst hρ
  cases ha : isNoneD a <;> cases hb : isNoneD b <;> simp [compL, tgSet, q48_0, c48_0, h1, h4, h5, ha, hb, plc]
theorem u48_nb (Φ : Ph) (cs op d s a b : PyData) (x : List PyData) (h46 : Φ 46 [.tuple [cs, op], d] = .ok (.bool true)) (h1 : ixD cs d = .ok (.tuple x)) (h4 : ixD (.tuple x) (.int 4) = .ok a) (h5 : ixD (.tuple x) (.int 5) = .ok b) (ha : isNoneD a = false) (hb : isNoneD b = false) : runC (t48 Φ) ["contract", "number", "second", "places", "place", "count", "mended"] ["contract", "number", "second"] [.tuple [cs, op], d, s] = .ok (.tuple [.str "breach", d]) := by
  have hc := q48 Φ cs op d s a b x h1 h4 h5 _ rfl
  simp [ha, hb, plc] at hc
  simp [t48, h46, hc]
theorem u48_many (Φ : Ph) (op d s1 a b : PyData) (cs ss x : List PyData) (h46 : Φ 46 [.tuple [.tuple cs, op], d] = .ok (.bool true)) (h1 : ixD (.tuple cs) d = .ok (.tuple x)) (h4 : ixD (.tuple x) (.int 4) = .ok a) (h5 : ixD (.tuple x) (.int 5) = .ok b) (hab : (isNoneD a || isNoneD b) = true) (hn : 16 < cs.length + ss.length) : runC (t48 Φ) ["contract", "number", "second", "places", "place", "count", "mended"] ["contract", "number", "second"] [.tuple [.tuple cs, op], d, .tuple [.tuple ss, s1]] = .ok (.tuple [.str "many", .str "clauses", .int 16]) := by
  have hc := q48 Φ (.tuple cs) op d (.tuple [.tuple ss, s1]) a b x h1 h4 h5 _ rfl
  have hn' : (16 : Int) < (cs.length : Int) + ss.length := by omega
  cases ha : isNoneD a <;> cases hb : isNoneD b <;> simp [ha, hb, plc] at hc hab ⊢ <;> simp [t48, h46, hc, hn']
theorem u48_ok (Φ : Ph) (op d s1 a b l B : PyData) (cs ss x As Bs : List PyData) (p : Int) (h46 : Φ 46 [.tuple [.tuple cs, op], d] = .ok (.bool true)) (h1 : ixD (.tuple cs) d = .ok (.tuple x)) (h4 : ixD (.tuple x) (.int 4) = .ok a) (h5 : ixD (.tuple x) (.int 5) = .ok b) (hp : (isNoneD a = true ∧ p = 4) ∨ (isNoneD a = false ∧ isNoneD b = true ∧ p = 5)) (hn : cs.length + ss.length ≤ 16)
    (h42 : Φ 42 [s1, .int cs.length] = .ok l) (h47 : Φ 47 [.tuple [.tuple cs, op], d, .int p, l] = .ok (.tuple [.tuple As, B])) (h43 : Φ 43 [.tuple [.tuple ss, s1], .int cs.length] = .ok (.tuple Bs)) (hl : As.length + Bs.length ≤ sizeLine) : runC (t48 Φ) ["contract", "number", "second", "places", "place", "count", "mended"] ["contract", "number", "second"] [.tuple [.tuple cs, op], d, .tuple [.tuple ss, s1]] = .ok (.tuple [.str "contract", .tuple [.tuple (As ++ Bs), B]]) := by
  have hc := q48 Φ (.tuple cs) op d (.tuple [.tuple ss, s1]) a b x h1 h4 h5 _ rfl
  have hn' : ¬ (16 : Int) < (cs.length : Int) + ss.length := by omega
  have hadd := addT As Bs hl
  rcases hp with ⟨ha, rfl⟩ | ⟨ha, hb, rfl⟩
  · cases hb : isNoneD b <;> simp [ha, hb, plc] at hc ⊢ <;> simp [t48, h46, hc, hn', h42, h47, h43, hadd]
  · simp [ha, hb, plc] at hc ⊢
    simp [t48, h46, hc, hn', h42, h47, h43, hadd]
theorem v49 (k : Nat) (c : Cl) : Ev (k + 1) 49 [c.d] = .ok (.int (if c.kd = "must" then 5 else if c.kd = "ban" then 4 else -1)) := by
  rw [e49, Cl.d]
  by_cases h1 : c.kd = "must"
  · simp [t49, h1]
  · by_cases h2 : c.kd = "ban"
    · simp +decide [t49, h2]
    · simp [t49, h1, h2]
theorem u50_no (Φ : Ph) (c d : PyData) (h46 : Φ 46 [c, d] = .ok (.bool false)) : runC (t50 Φ) ["contract", "number", "place"] ["contract", "number"] [c, d] = .ok (.tuple [.str "clause", d]) := by
  simp [t50, h46]
theorem u50_nb (Φ : Ph) (cs op d x : PyData) (p : Int) (h46 : Φ 46 [.tuple [cs, op], d] = .ok (.bool true)) (h1 : ixD cs d = .ok x) (h49 : Φ 49 [x] = .ok (.int p)) (hp : p < 0) : runC (t50 Φ) ["contract", "number", "place"] ["contract", "number"] [.tuple [cs, op], d] = .ok (.tuple [.str "breach", d]) := by
  simp [t50, h46, h1, h49, hp]
theorem u50_ok (Φ : Ph) (cs op d x r : PyData) (p : Int) (h46 : Φ 46 [.tuple [cs, op], d] = .ok (.bool true)) (h1 : ixD cs d = .ok x) (h49 : Φ 49 [x] = .ok (.int p)) (hp : ¬ p < 0) (h47 : Φ 47 [.tuple [cs, op], d, .int p, .none] = .ok r) : runC (t50 Φ) ["contract", "number", "place"] ["contract", "number"] [.tuple [cs, op], d] = .ok (.tuple [.str "contract", r]) := by
  simp [t50, h46, h1, h49, hp, h47]
/-! ### what the law is told -/
theorem u45_ok (Φ : Ph) (w c d s r : PyData) (h : Φ 44 [w, c, d, s] = .ok r) : runC (t45 Φ) ["word", "contract", "number", "second", "e"] ["word", "contract", "number", "second"] [w, c, d, s] = .ok (.tuple [.str "contract", r]) := by
  simp [t45, h]
theorem u45_x (Φ : Ph) (w c d s : PyData) (n : Str) (es : List PyData) (r : PyData) (h : Φ 44 [w, c, d, s] = .exc n es)
    (hr : tryH G [⟨"NoSuchClause", (some 4), sSeq (sIf (cOrT (cNotT (cTst (cIsE G 4 ["ValueError"]))) (cTst (cIsE G 4 ["NoBreach", "TooMany", "InvalidOrder"]))) (sSeq (disow [] (sRet (cTup [cK (.str "wrong")]))) (sNx)) (sNx)) (sSeq (disow [] (sRet (cTup [cK (.str "clause"), cFld G 4 "number"]))) (sNx))⟩, ⟨"NoBreach", (some 4), sSeq (sIf (cOrT (cNotT (cTst (cIsE G 4 ["ValueError"]))) (cTst (cIsE G 4 ["TooMany", "InvalidOrder"]))) (sSeq (disow [] (sRet (cTup [cK (.str "wrong")]))) (sNx)) (sNx)) (sSeq (disow [] (sRet (cTup [cK (.str "breach"), cFld G 4 "number"]))) (sNx))⟩, ⟨"TooMany", (some 4), sSeq (sIf (cOrT (cNotT (cTst (cIsE G 4 ["ValueError"]))) (cTst (cIsE G 4 ["InvalidOrder"]))) (sSeq (disow [] (sRet (cTup [cK (.str "wrong")]))) (sNx)) (sNx)) (sSeq (disow [] (sRet (cTup [cK (.str "many"), cFld G 4 "what", cFld G 4 "limit"]))) (sNx))⟩, ⟨"InvalidOrder", (some 4), sSeq (sIf (cOrT (cNotT (cTst (cIsE G 4 ["PactError"]))) (cNotT (cTst (cIsE G 4 ["ValueError"])))) (sSeq (disow [] (sRet (cTup [cK (.str "wrong")]))) (sNx)) (sNx)) (sSeq (disow [] (sRet (cTup [cK (.str "order")]))) (sNx))⟩] n es [.dat w false, .dat c false, .dat d false, .dat s false, .no] = .rt r) : runC (t45 Φ) ["word", "contract", "number", "second", "e"] ["word", "contract", "number", "second"] [w, c, d, s] = .ok r := by
  have hb : (sSeq (disow [] (sRet (cTup [cK (.str "contract"), cCall Φ 44 [cVarB 0, cVarB 1, cVarB 2, cVarB 3] [some 0, some 1, some 2, some 3]]))) (sNx)) [.dat w false, .dat c false, .dat d false, .dat s false, .no] = .exc n es [.dat w false, .dat c false, .dat d false, .dat s false, .no] := by
    simp [h]
  unfold t45
  show endC (match (match (sSeq (disow [] (sRet (cTup [cK (.str "contract"), cCall Φ 44 [cVarB 0, cVarB 1, cVarB 2, cVarB 3] [some 0, some 1, some 2, some 3]]))) (sNx)) [.dat w false, .dat c false, .dat d false, .dat s false, .no] with | .exc n ds ρ' => tryH G _ n ds ρ' | r => r) with | .nx ρ' => _ | r => r) = _
  rw [hb]
  simp only []
  rw [hr]
  rfl
theorem u45_1 (Φ : Ph) (w c d s n : PyData) (h : Φ 44 [w, c, d, s] = .exc "NoSuchClause" [n]) : runC (t45 Φ) ["word", "contract", "number", "second", "e"] ["word", "contract", "number", "second"] [w, c, d, s] = .ok (.tuple [.str "clause", n]) := u45_x Φ w c d s _ _ _ h (by rfl)
theorem u45_2 (Φ : Ph) (w c d s n : PyData) (h : Φ 44 [w, c, d, s] = .exc "NoBreach" [n]) : runC (t45 Φ) ["word", "contract", "number", "second", "e"] ["word", "contract", "number", "second"] [w, c, d, s] = .ok (.tuple [.str "breach", n]) := u45_x Φ w c d s _ _ _ h (by rfl)
theorem u45_3 (Φ : Ph) (w c d s : PyData) (h : Φ 44 [w, c, d, s] = .exc "TooMany" [.int 16, .str "clauses"]) : runC (t45 Φ) ["word", "contract", "number", "second", "e"] ["word", "contract", "number", "second"] [w, c, d, s] = .ok (.tuple [.str "many", .str "clauses", .int 16]) := u45_x Φ w c d s _ _ _ h (by rfl)
theorem u45_4 (Φ : Ph) (w c d s : PyData) (h : Φ 44 [w, c, d, s] = .exc "InvalidOrder" []) : runC (t45 Φ) ["word", "contract", "number", "second", "e"] ["word", "contract", "number", "second"] [w, c, d, s] = .ok (.tuple [.str "order"]) := u45_x Φ w c d s _ _ _ h (by rfl)
/-! ### equal data -/
def plainD : Nat → PyData → Bool
  | 0, _ => false
  | _ + 1, .none => true
  | _ + 1, .int _ => true
  | _ + 1, .bool _ => true
  | _ + 1, .str _ => true
  | n + 1, .tuple ds => decide (ds.length ≤ 1000) && ds.all (plainD n)
  | n + 1, .list ds => decide (ds.length ≤ 1000) && ds.all (plainD n)
  | _, _ => false
theorem u36_body (Φ : Ph) (d x : PyData) (i : Nat) (e : ixD d (.int i) = .ok x) (h : Φ 36 [x, x] = .ok (.bool true)) : b36_0 Φ [.dat d false, .dat d false, .dat (natD i) false] = .nx [.dat d false, .dat d false, .dat (natD i) false] := by
  unfold natD
  simp [b36_0, e, h]
theorem u36_seq (Φ : Ph) (ds : List PyData) (d : PyData) (hd : d = .tuple ds ∨ d = .list ds) (hl : ds.length ≤ 1000) (h : ∀ x ∈ ds, Φ 36 [x, x] = .ok (.bool true)) : runC (t36 Φ) ["value", "due", "k"] ["value", "due"] [d, d] = .ok (.bool true) := by
  have hix : ∀ i : Nat, i < ds.length → ∃ x ∈ ds, ixD d (.int i) = .ok x := by
    intro i hi
    refine ⟨ds[i], List.getElem_mem hi, ?_⟩
    rcases hd with rfl | rfl
    · exact ixT_nat (by simp [hi])
    · exact ixL_nat (by simp [hi])
  have hln : lenD d = .ok (.int ds.length) := by rcases hd with rfl | rfl <;> rfl
  have hr := cRange1_nat (n := ds.length) (a := c1 lenD (cVarB 1)) (ρ := [.dat d false, .dat d false, .no]) (by rcases hd with rfl | rfl <;> rfl) (by omega)
  have hS : ∃ y, forL (.one 2) (b36_0 Φ) ((List.range ds.length).map natD) [.dat d false, .dat d false, .no] = .nx [.dat d false, .dat d false, y] := forL_same natD (fun y => [.dat d false, .dat d false, y]) (i := 2) (b := b36_0 Φ) (List.range ds.length) (fun x y => rfl) (by
    intro i hi
    obtain ⟨x, hx, e⟩ := hix i (by simpa using hi)
    exact u36_body Φ d x i e (h x hx)) .no
  obtain ⟨y, h1⟩ := hS
  generalize hR : (List.range ds.length).map natD = L at hr h1
  clear hR hix h
  rcases hd with rfl | rfl
  · simp [-cRange1_ap, t36, hr, h1, neD_bool]
  · simp [-cRange1_ap, t36, hr, h1, neD_bool]
theorem v36 : ∀ (n k : Nat) (d : PyData), plainD n d = true → Ev (k + n) 36 [d, d] = .ok (.bool true)
  | 0, _, _, h => by cases h
  | n + 1, k, d, h => by
    show Ev ((k + n) + 1) 36 [d, d] = _
    rw [e36]
    cases d with
    | none => simp [t36, isNoneD]
    | int i => simp [t36]
    | bool b => simp [t36]
    | str z => simp [t36, isNoneD]
    | tuple ds =>
      simp [plainD] at h
      exact u36_seq _ ds _ (.inl rfl) h.1 fun x hx => v36 n k x (h.2 x hx)
    | list ds =>
      simp [plainD] at h
      exact u36_seq _ ds _ (.inr rfl) h.1 fun x hx => v36 n k x (h.2 x hx)
    | _ => cases h
end Pv.K42


namespace Pv.K42
open PySem PySem.Spec L2
open PyProof.Rows hiding St

/-! ### strikes -/
def rk (kp l : List Int) : List Int := (l.filter fun n => decide (n ∈ kp)).map fun n => (kp.idxOf n : Int)
def ixk (kp : List Int) (n : Int) : Int := if n ∈ kp then (kp.idxOf n : Int) else -1
theorem rl_rk (kp l : List Int) : rl (ixk kp) l = rk kp l := by
  unfold rl rk
  have e : (fun n => decide (0 ≤ ixk kp n)) = fun n => decide (n ∈ kp) := by
    funext n
    unfold ixk
    by_cases h : n ∈ kp <;> simp [h]
  rw [e]
  apply List.map_congr_left
  intro n hn
  have : n ∈ kp := by simpa using (List.mem_filter.mp hn).2
  unfold ixk
  rw [if_pos this]
theorem idx_mono {kp : List Int} (h : SAsc kp) {a b : Int} (ha : a ∈ kp) (hb : b ∈ kp) (hab : a < b) : kp.idxOf a < kp.idxOf b := by
  have la := List.idxOf_lt_length_of_mem ha
  have lb := List.idxOf_lt_length_of_mem hb
  have ea : kp[kp.idxOf a] = a := List.getElem_idxOf la
  have eb : kp[kp.idxOf b] = b := List.getElem_idxOf lb
  rcases Nat.lt_trichotomy (kp.idxOf a) (kp.idxOf b) with g | g | g
  · exact g
  · exfalso
    have : kp[kp.idxOf a] = kp[kp.idxOf b] := by congr 1
    omega
  · have := List.pairwise_iff_getElem.mp h _ _ lb la g
    omega
theorem asc_rk {kp l : List Int} (hk : SAsc kp) (hl : SAsc l) : SAsc (rk kp l) := by
  unfold rk SAsc
  rw [List.pairwise_map]
  have := hl.filter fun n => decide (n ∈ kp)
  refine this.imp_of_mem ?_
  intro a b ha hb hab
  have h1 : a ∈ kp := by simpa using (List.mem_filter.mp ha).2
  have h2 : b ∈ kp := by simpa using (List.mem_filter.mp hb).2
  have := idx_mono hk h1 h2 hab
  omega
def Cl.keep (kp : List Int) (c : Cl) : Cl := { c with dn := c.dn.map (rk kp), lp := c.lp.map (rk kp) }
def pickD (c : Ct) (kp : List Int) (n : Int) : PyData := match c.cs[n.toNat]? with
  | some x => (x.keep kp).d
  | none => .none
def keepD (c : Ct) (kp : List Int) : PyData := .tuple [.tuple (kp.map (pickD c kp)), nT (rk kp c.op)]
def tbl (kp : List Int) (n j : Nat) : List Int := (List.range n).map fun (m : Nat) => if (m : Int) ∈ kp.take j then (kp.idxOf (m : Int) : Int) else -1
theorem tbl_0 (kp : List Int) (n : Nat) : tbl kp n 0 = List.replicate n (-1) := by
  unfold tbl
  simp [List.map_const']
theorem tbl_get (kp : List Int) (n j m : Nat) : (tbl kp n j)[m]? = if m < n then some (if (m : Int) ∈ kp.take j then (kp.idxOf (m : Int) : Int) else -1) else none := by
  unfold tbl
  by_cases h : m < n <;> simp [h]
theorem tbl_step {kp : List Int} (h : SAsc kp) {n j : Nat} (hj : j < kp.length) (hb : 0 ≤ kp[j] ∧ kp[j] < n) : (tbl kp n j).set (kp[j]).toNat (j : Int) = tbl kp n (j + 1) := by
  have hnd : kp.Nodup := h.imp fun h => by omega
  have ht : ∀ m : Int, m ∈ kp.take (j + 1) ↔ (m ∈ kp.take j ∨ m = kp[j]) := by
    intro m
    have e := List.take_append_getElem hj
    rw [← e, List.mem_append, List.mem_singleton]
  apply List.ext_getElem?
  intro m
  rw [List.getElem?_set, tbl_get, tbl_get]
  by_cases hm : m < n
  · rw [if_pos hm, if_pos hm]
    by_cases e : (kp[j]).toNat = m
    · have e2 : (m : Int) = kp[j] := by omega
      have e3 : kp.idxOf kp[j] = j := hnd.idxOf_getElem j hj
      have e4 : (m : Int) ∈ kp.take (j + 1) := (ht _).mpr (.inr e2)
      rw [if_pos e, if_pos e4, e2, e3, if_pos (by simp [tbl]; omega)]
    · have e2 : ¬ (m : Int) = kp[j] := by omega
      rw [if_neg e]
      simp only [ht, e2, or_false]
  · rw [if_neg hm, if_neg hm]
    rw [if_neg (by omega)]
theorem tbl_full {kp : List Int} {n : Nat} {m : Int} (hm : 0 ≤ m ∧ m < n) : ixD (nT (tbl kp n kp.length)) (.int m) = .ok (.int (ixk kp m)) := by
  obtain ⟨i, rfl⟩ := Int.eq_ofNat_of_zero_le hm.1
  apply ixT_nat
  unfold tbl ixk
  have hi : i < n := by omega
  simp [hi]
theorem mul_rep (x : PyData) (n : Nat) (h : n ≤ 1000) : mulD (.list [x]) (.int n) = .ok (.list (List.replicate n x)) := by
  have z1 : -(2 ^ 63) ≤ (n : Int) := by omega
  have z2 : (n : Int) < 2 ^ 63 := by omega
  have z3 : [x].length * (n : Int).toNat ≤ sizeLine := by
    have : sizeLine = 16777216 := rfl
    simp; omega
  simp only [mulD, z1, z2, z3, and_self, if_true]
  simp
theorem seq_nx {a b : CS} {ρ ρ' : En} (h : a ρ = .nx ρ') : sSeq a b ρ = b ρ' := by
  rw [sSeq_ap, h]
theorem seq_rt {a b : CS} {ρ : En} {d : PyData} (h : a ρ = .rt d) : sSeq a b ρ = .rt d := by
  rw [sSeq_ap, h]
theorem for_nx {ci : CI} {g : Tg} {b : CS} {ρ ρ' : En} {ds : List PyData} (h1 : ci ρ = .ok ds) (h2 : forL g b ds ρ = .nx ρ') : sFor ci g b ρ = .nx ρ' := by
  rw [sFor_ap, h1]
  exact h2
theorem for_nx0 {ci : CI} {g : Tg} {b : CS} {ρ ρ' : En} {ds : List PyData} (h1 : ci ρ = .ok ds) (h2 : forL g b ds ρ = .nx ρ') : disow [] (sFor ci g b) ρ = .nx ρ' := by
  rw [disow_ap]
  exact for_nx h1 h2
theorem run_of {c : CS} {N ps : List Str} {ds : List PyData} {ρ : En} (h : ds.length = ps.length) (hs : startE N ds = ρ) : runC c N ps ds = endC (c ρ) := by
  subst hs
  exact if_pos h
theorem end_rt (d : PyData) : endC (.rt d) = .ok d := rfl
theorem set_ok {i : Nat} {fr : Bool} {c : CE} {ρ : En} {d : PyData} (h : c ρ = .ok d) : sSet i fr c ρ = .nx (ρ.set i (.dat d (fr && isL d))) := by
  rw [sSet_ap, h]
theorem u18 (Φ : Ph) (c : Ct) (kp : List Int) (hc : c.Ok) (hk : Asc c.cs.length kp) (h16 : Φ 16 [c.d] = .ok (.int c.cs.length)) (h13 : ∀ x ∈ c.cs, Φ 13 [x.d, nT (tbl kp c.cs.length kp.length)] = .ok (x.keep kp).d) (h3 : Φ 3 [.list ((rk kp c.op).map .int)] = .ok (nT (rk kp c.op))) :
    runC (t18 Φ) ["contract", "numbers", "table", "index", "clauses", "number", "opening"] ["contract", "numbers"] [c.d, nT kp] = .ok (keepD c kp) := by
  have hlen := asc_len hk
  have hfew := hc.few
  have hm := mul_rep (.int (-1)) c.cs.length (by omega)
  have hr := cRange1_nat (n := kp.length) (a := c1 lenD (cVarB 1)) (ρ := [.dat c.d false, .dat (nT kp) false, .dat (.list (List.replicate c.cs.length (.int (-1)))) true, .no, .no, .no, .no]) (by simp [nT]) (by omega)
  obtain ⟨ρ', h1, y, rfl⟩ := forL_inv natD (fun done ρ => ∃ y, ρ = [.dat c.d false, .dat (nT kp) false, .dat (.list ((tbl kp c.cs.length done.length).map .int)) true, y, .no, .no, .no]) (i := 3) (b := b18_0 Φ) (List.range kp.length) (by
    rintro done a rest ρ e ⟨y, rfl⟩
    have ha : done.length < kp.length ∧ a = done.length := by
      have h1 : (List.range kp.length)[done.length]? = some a := by rw [e]; simp
      have h2 := (List.getElem?_eq_some_iff.mp h1)
      obtain ⟨h3, h4⟩ := h2
      simp at h3 h4
      exact ⟨h3, h4.symm⟩
    obtain ⟨hj, rfl⟩ := ha
    have hb := hk.2 kp[done.length] (List.getElem_mem hj)
    have hi : ixD (nT kp) (.int (done.length : Int)) = .ok (.int kp[done.length]) := ixT_nat (by simp [hj])
    have hix : ixN (tbl kp c.cs.length done.length).length kp[done.length] = some (kp[done.length]).toNat := by
      unfold ixN
      rw [if_pos hb.1, if_pos (by simp [tbl]; omega)]
    have hset : ((tbl kp c.cs.length done.length).map PyData.int).set (kp[done.length]).toNat (.int (done.length : Int)) = (tbl kp c.cs.length (done.length + 1)).map .int := by
      rw [← tbl_step hk.1 hj hb, List.map_set]
    refine ⟨[.dat c.d false, .dat (nT kp) false, .dat (.list ((tbl kp c.cs.length (done ++ [done.length]).length).map .int)) true, .dat (natD done.length) false, .no, .no, .no], .inl ?_, _, rfl⟩
    simp [b18_0, natD, hi, hix, hset]) (ρ := [.dat c.d false, .dat (nT kp) false, .dat (.list (List.replicate c.cs.length (.int (-1)))) true, .no, .no, .no, .no]) ⟨.no, by rw [List.length_nil, tbl_0, List.map_replicate]⟩
  rw [List.length_range] at h1
  have hq := compL_on_all PyData.int (pickD c kp) (i := 5) (e := c18_0 Φ) (ρ := [.dat c.d false, .dat (nT kp) false, .dat (.list ((tbl kp c.cs.length kp.length).map .int)) true, y, .no, .no, .no]) (l := kp) (by
    intro n hn
    have hb := hk.2 n hn
    obtain ⟨i, rfl⟩ := Int.eq_ofNat_of_zero_le hb.1
    have hi : i < c.cs.length := by omega
    have hx : c.cs[i]? = some c.cs[i] := List.getElem?_eq_getElem hi
    have a1 : ixD (.tuple (c.cs.map Cl.d)) (.int i) = .ok (c.cs[i]).d := ixT_nat (by simp [hi])
    have a2 := h13 _ (List.getElem_mem hi)
    rw [nT] at a2
    have a3 : ixD c.d (.int 0) = .ok (.tuple (c.cs.map Cl.d)) := ixT_0 ..
    simp [c18_0, a3, a1, a2, pickD, hi])
  have hp := fun Y => compL_on PyData.int (fun n => decide (0 ≤ ixk kp n)) (fun n => .int (ixk kp n)) (i := 5) (t := q18_0 Φ) (e := c18_1 Φ) (ρ := [.dat c.d false, .dat (nT kp) false, .dat (.list ((tbl kp c.cs.length kp.length).map .int)) true, y, .dat Y false, .no, .no]) (l := c.op) (by
    intro n hn
    have a1 : ixD (.list ((tbl kp c.cs.length kp.length).map .int)) (.int n) = .ok (.int (ixk kp n)) := tbl_full (hc.op.2 n hn)
    constructor
    · simp [q18_0, a1]
    · intro _; simp [c18_1, a1])
  have a3 : ixD c.d (.int 0) = .ok (.tuple (c.cs.map Cl.d)) := ixT_0 ..
  have a4 : ixD c.d (.int 1) = .ok (.tuple (c.op.map .int)) := ixT_1 ..
  have hrl : (c.op.filter fun n => decide (0 ≤ ixk kp n)).map (fun n => PyData.int (ixk kp n)) = (rk kp c.op).map .int := by
    rw [← rl_rk, rl, List.map_map]; rfl
  rw [hrl] at hp
  have s1 : disow [] (sSet 2 true (c2 mulD (cLst [c1 negD (cK (.int 1))]) (cCall Φ 16 [cVarB 0] [some 0]))) [.dat c.d false, .dat (nT kp) false, .no, .no, .no, .no, .no] = .nx [.dat c.d false, .dat (nT kp) false, .dat (.list (List.replicate c.cs.length (.int (-1)))) true, .no, .no, .no, .no] := by
    have q1 : cLst [c1 negD (cK (.int 1))] [.dat c.d false, .dat (nT kp) false, .no, .no, .no, .no, .no] = .ok (.list [.int (-1)]) := by simp
    have q2 : cCall Φ 16 [cVarB 0] [some 0] [.dat c.d false, .dat (nT kp) false, .no, .no, .no, .no, .no] = .ok (.int c.cs.length) := by simp [h16]
    have q3 : c2 mulD (cLst [c1 negD (cK (.int 1))]) (cCall Φ 16 [cVarB 0] [some 0]) [.dat c.d false, .dat (nT kp) false, .no, .no, .no, .no, .no] = .ok (.list (List.replicate c.cs.length (.int (-1)))) := by
      rw [c2_ap, q1, R.bind_ok, q2, R.bind_ok, hm]
      rfl
    rw [disow_ap]
    exact set_ok q3
  have s3 : disow [] (sSet 4 false (c1 tupleD (cComp (cItE (cVarB 1)) [5] (.one 5) (tYesC) (c18_0 Φ)))) [.dat c.d false, .dat (nT kp) false, .dat (.list ((tbl kp c.cs.length kp.length).map .int)) true, y, .no, .no, .no] = .nx [.dat c.d false, .dat (nT kp) false, .dat (.list ((tbl kp c.cs.length kp.length).map .int)) true, y, .dat (.tuple (kp.map (pickD c kp))) false, .no, .no] := by
    simp only [nT] at hq ⊢
    simp [hq]
  have s4 : disow [] (sSet 6 false (cCall Φ 3 [cComp (cItE (c2 ixD (cVarB 0) (cK (.int 1)))) [5] (.one 5) (q18_0 Φ) (c18_1 Φ)] [none])) [.dat c.d false, .dat (nT kp) false, .dat (.list ((tbl kp c.cs.length kp.length).map .int)) true, y, .dat (.tuple (kp.map (pickD c kp))) false, .no, .no] = .nx [.dat c.d false, .dat (nT kp) false, .dat (.list ((tbl kp c.cs.length kp.length).map .int)) true, y, .dat (.tuple (kp.map (pickD c kp))) false, .no, .dat (nT (rk kp c.op)) false] := by
    simp [a4, hp, h3]
  have s5 : disow [4, 6] (sRet (cTup [cVar 4, cVar 6])) [.dat c.d false, .dat (nT kp) false, .dat (.list ((tbl kp c.cs.length kp.length).map .int)) true, y, .dat (.tuple (kp.map (pickD c kp))) false, .no, .dat (nT (rk kp c.op)) false] = .rt (keepD c kp) := by
    simp [keepD]
  have s2 := for_nx0 hr h1
  rw [run_of (ρ := [.dat c.d false, .dat (nT kp) false, .no, .no, .no, .no, .no]) rfl rfl]
  unfold t18
  rw [seq_nx s1, seq_nx s2, seq_nx s3, seq_nx s4, seq_rt s5, end_rt]
theorem v18 (k : Nat) (c : Ct) (kp : List Int) (hc : c.Ok) (hk : Asc c.cs.length kp) : Ev (k + 5) 18 [c.d, nT kp] = .ok (keepD c kp) := by
  rw [e18]
  refine u18 _ c kp hc hk (w16 (k + 3) c) ?_ (v3 (k + 3) _ (asc_rk hk.1 hc.op.1) ?_)
  · intro x hx
    obtain ⟨_, g1, g2⟩ := hc.cl x hx
    have key : ∀ l, Asc c.cs.length l → (∀ n ∈ l, ixD (nT (tbl kp c.cs.length kp.length)) (.int n) = .ok (.int (ixk kp n))) ∧ SAsc (rl (ixk kp) l) ∧ l.length ≤ 1000 := by
      intro l hl
      refine ⟨fun n hn => tbl_full (hl.2 n hn), ?_, Nat.le_trans (asc_len hl) (Nat.le_trans hc.few (by decide))⟩
      rw [rl_rk]
      exact asc_rk hk.1 hl.1
    have hv := v13 k x (nT (tbl kp c.cs.length kp.length)) (ixk kp) (fun l e => key l (by rw [e] at g1; exact g1)) (fun l e => key l (by rw [e] at g2; exact g2))
    have hrr : x.relink (ixk kp) = x.keep kp := by
      unfold Cl.relink Cl.keep
      have : rl (ixk kp) = rk kp := funext fun l => rl_rk kp l
      rw [this]
    rw [hrr] at hv
    exact hv
  · rw [← rl_rk]
    exact Nat.le_trans (rl_len _ _) (Nat.le_trans (asc_len hc.op) (Nat.le_trans hc.few (by decide)))
end Pv.K42


namespace Pv.K42
open PySem PySem.Spec L2
open PyProof.Rows hiding St

theorem v51 (k : Nat) (o : Option (List Int)) (kp : List Int) : Ev (k + 1) 51 [nO o, .list (kp.map .int)] = .ok (nO (o.map (rk kp))) := by
  rw [e51]
  cases o with
  | none => simp [t51, nO, isNoneD]
  | some l =>
    have hc := compL_on PyData.int (fun n => decide (n ∈ kp)) (fun n => .int (kp.idxOf n : Nat)) (i := 2) (t := q51_0 (Ev k)) (e := c51_0 (Ev k)) (ρ := [.dat (nT l) false, .dat (.list (kp.map .int)) false, .no]) (l := l) (by
      intro n hn
      have a1 := inD_int_l n kp
      constructor
      · simp [q51_0, a1]
      · intro hp
        have a2 := indexD_int n kp (by simpa using hp)
        simp [c51_0, a2])
    have e : (rk kp l).map PyData.int = (l.filter fun n => decide (n ∈ kp)).map fun n => .int (kp.idxOf n : Nat) := by
      rw [rk, List.map_map]; rfl
    rw [← e] at hc
    simp only [nT] at hc
    simp [t51, nO, nT, isNoneD, hc]
def kpt (n : Nat) (l : List Int) : List Int := (upTo n).filter fun m => !decide (m ∈ l)
theorem asc_upTo (n : Nat) : Asc n (upTo n) := by
  unfold upTo
  constructor
  · unfold SAsc
    rw [List.pairwise_map]
    exact List.pairwise_lt_range.imp fun h => by simpa using h
  · intro m hm
    simp at hm
    obtain ⟨a, ha, rfl⟩ := hm
    omega
theorem asc_kpt (n : Nat) (l : List Int) : Asc n (kpt n l) := by
  obtain ⟨h1, h2⟩ := asc_upTo n
  exact ⟨h1.filter _, fun m hm => h2 m (List.mem_filter.mp hm).1⟩
theorem u52_body (Φ : Ph) (c : Ct) (kp : List Int) (l y3 y5 : Sl) (done : List PyData) (n : Int) (x : Cl) (hx : c.cs[n.toNat]? = some x) (hn : 0 ≤ n) (hl : done.length < 16000000) (h4 : Φ 51 [nO x.dn, .list (kp.map .int)] = .ok (nO (x.dn.map (rk kp)))) (h5 : Φ 51 [nO x.lp, .list (kp.map .int)] = .ok (nO (x.lp.map (rk kp)))) :
    b52_0 Φ [.dat c.d false, l, .dat (.list (kp.map .int)) false, .dat (.int n) false, .dat (.list done) true, y5] = .nx [.dat c.d false, l, .dat (.list (kp.map .int)) false, .dat (.int n) false, .dat (.list (done ++ [pickD c kp n])) true, .dat x.d false] := by
  obtain ⟨i, rfl⟩ := Int.eq_ofNat_of_zero_le hn
  have a1 : ixD (.tuple (c.cs.map Cl.d)) (.int i) = .ok x.d := ixT_nat (by
    have hx' : c.cs[i]? = some x := hx
    simp [hx'])
  have a3 : ixD c.d (.int 0) = .ok (.tuple (c.cs.map Cl.d)) := ixT_0 ..
  have hp : pickD c kp i = (x.keep kp).d := by unfold pickD; rw [hx]
  rw [hp]
  simp [b52_0, a3, a1, Cl.d, Cl.keep, ix4, ix5, slD, cut4, h4, h5, add42, hl]
theorem u52 (Φ : Ph) (c : Ct) (l : List Int) (hc : c.Ok) (h51 : ∀ o, Φ 51 [nO o, .list ((kpt c.cs.length l).map .int)] = .ok (nO (o.map (rk (kpt c.cs.length l))))) : runC (t52 Φ) ["contract", "numbers", "kept", "number", "clauses", "clause"] ["contract", "numbers"] [c.d, nT l] = .ok (.tuple [.str "contract", keepD c (kpt c.cs.length l)]) := by
  have hfew := hc.few
  have hk := asc_kpt c.cs.length l
  have hkl := asc_len hk
  have a3 : ixD c.d (.int 0) = .ok (.tuple (c.cs.map Cl.d)) := ixT_0 ..
  have a4 : ixD c.d (.int 1) = .ok (nO (some c.op)) := ixT_1 ..
  have hr := cRange1_nat (n := c.cs.length) (a := c1 lenD (c2 ixD (cVarB 0) (cK (.int 0)))) (ρ := [.dat c.d false, .dat (nT l) false, .no, .no, .no, .no]) (by simp [a3]) (by omega)
  rw [natD_upTo] at hr
  have hq := compL_on PyData.int (fun m => !decide (m ∈ l)) PyData.int (i := 3) (t := q52_0 Φ) (e := c52_0 Φ) (ρ := [.dat c.d false, .dat (nT l) false, .no, .no, .no, .no]) (l := upTo c.cs.length) (by
    intro n hn
    have a1 := notInD_int n l
    constructor
    · simp [q52_0, nT, a1]
    · intro _; simp [c52_0])
  obtain ⟨ρ', h1, y3, y5, rfl⟩ := forL_inv PyData.int (fun done ρ => ∃ y3 y5, ρ = [.dat c.d false, .dat (nT l) false, .dat (.list ((kpt c.cs.length l).map .int)) false, y3, .dat (.list (done.map (pickD c (kpt c.cs.length l)))) true, y5]) (i := 3) (b := b52_0 Φ) (kpt c.cs.length l) (by
    rintro done a rest ρ e ⟨y3, y5, rfl⟩
    have hb := hk.2 a (by rw [e]; simp)
    have hi : a.toNat < c.cs.length := by omega
    have hlt : (done.map (pickD c (kpt c.cs.length l))).length < 16000000 := by
      have : (kpt c.cs.length l).length = done.length + (rest.length + 1) := by rw [e]; simp
      simp; omega
    have := u52_body Φ c (kpt c.cs.length l) (.dat (nT l) false) y3 y5 (done.map (pickD c (kpt c.cs.length l))) a _ (List.getElem?_eq_getElem hi) hb.1 hlt (h51 _) (h51 _)
    refine ⟨_, .inl this, .dat (.int a) false, .dat (c.cs[a.toNat]).d false, ?_⟩
    rw [List.map_append]; rfl) (ρ := [.dat c.d false, .dat (nT l) false, .dat (.list ((kpt c.cs.length l).map .int)) false, .no, .dat (.list []) true, .no]) ⟨.no, .no, rfl⟩
  have s1 : disow [3] (sSet 2 true (cComp (cRange1 (c1 lenD (c2 ixD (cVarB 0) (cK (.int 0))))) [3] (.one 3) (q52_0 Φ) (c52_0 Φ))) [.dat c.d false, .dat (nT l) false, .no, .no, .no, .no] = .nx [.dat c.d false, .dat (nT l) false, .dat (.list ((kpt c.cs.length l).map .int)) true, .no, .no, .no] := by
    simp [-cRange1_ap, hr, hq, kpt]
  have s2 : disow [] (sSet 4 true (cLst [])) [.dat c.d false, .dat (nT l) false, .dat (.list ((kpt c.cs.length l).map .int)) true, .no, .no, .no] = .nx [.dat c.d false, .dat (nT l) false, .dat (.list ((kpt c.cs.length l).map .int)) true, .no, .dat (.list []) true, .no] := by
    simp
  have s3 : disow [2] (sFor (cItE (cVar 2)) (.one 3) (b52_0 Φ)) [.dat c.d false, .dat (nT l) false, .dat (.list ((kpt c.cs.length l).map .int)) true, .no, .dat (.list []) true, .no] = .nx [.dat c.d false, .dat (nT l) false, .dat (.list ((kpt c.cs.length l).map .int)) false, y3, .dat (.list ((kpt c.cs.length l).map (pickD c (kpt c.cs.length l)))) true, y5] := by
    rw [disow_ap]
    exact for_nx (by simp) h1
  have s4 : disow [] (sRet (cTup [cK (.str "contract"), cTup [c1 tupleD (cVarB 4), cCall Φ 51 [c2 ixD (cVarB 0) (cK (.int 1)), cVarB 2] [none, some 2]]])) [.dat c.d false, .dat (nT l) false, .dat (.list ((kpt c.cs.length l).map .int)) false, y3, .dat (.list ((kpt c.cs.length l).map (pickD c (kpt c.cs.length l)))) true, y5] = .rt (.tuple [.str "contract", keepD c (kpt c.cs.length l)]) := by
    have q := h51 (some c.op)
    simp only [nO, Option.map_some] at q a4
    simp [a4, q, keepD]
  rw [run_of (ρ := [.dat c.d false, .dat (nT l) false, .no, .no, .no, .no]) rfl rfl]
  unfold t52
  rw [seq_nx s1, seq_nx s2, seq_nx s3, seq_rt s4, end_rt]
theorem v52 (k : Nat) (c : Ct) (l : List Int) (hc : c.Ok) : Ev (k + 2) 52 [c.d, nT l] = .ok (.tuple [.str "contract", keepD c (kpt c.cs.length l)]) := by
  have h51 : ∀ o, Ev (k + 1) 51 [nO o, .list ((kpt c.cs.length l).map .int)] = .ok (nO (o.map (rk (kpt c.cs.length l)))) := fun o => v51 k o _
  have h := u52 (Ev (k + 1)) c l hc h51
  exact (e52 (k + 1) [c.d, nT l]).trans h
theorem u19 (Φ : Ph) (c kp r : PyData) (n : Int) (h16 : Φ 16 [c] = .ok (.int n)) (h2 : Φ 2 [kp, .int n] = .ok (.bool true)) (h18 : Φ 18 [c, kp] = .ok r) : runC (t19 Φ) ["contract", "numbers"] ["contract", "numbers"] [c, kp] = .ok r := by
  simp [t19, h16, h2, h18]
theorem v19 (k : Nat) (c : Ct) (kp : List Int) (hc : c.Ok) (hk : Asc c.cs.length kp) : Ev (k + 6) 19 [c.d, nT kp] = .ok (keepD c kp) := by
  have a1 : Ev (k + 5) 16 [c.d] = .ok (.int c.cs.length) := w16 (k + 4) c
  have a2 : Ev (k + 5) 2 [nT kp, .int c.cs.length] = .ok (.bool true) := v2_asc (k := k + 3) hk
  exact (e19 (k + 5) _).trans (u19 (Ev (k + 5)) _ _ _ _ a1 a2 (v18 k c kp hc hk))
theorem u32_no (Φ : Ph) (c d : PyData) (n : Int) (h16 : Φ 16 [c] = .ok (.int n)) (h2 : Φ 2 [d, .int n] = .ok (.bool false)) : runC (t32 Φ) ["contract", "numbers", "number"] ["contract", "numbers"] [c, d] = .exc "InvalidOrder" [] := by
  simp [t32, h16, h2, fl4]
theorem u32_ok (Φ : Ph) (c : PyData) (l : List Int) (n : Nat) (r : PyData) (hn : n ≤ 1000) (h16 : Φ 16 [c] = .ok (.int n)) (h2 : Φ 2 [nT l, .int n] = .ok (.bool true)) (h19 : Φ 19 [c, nT (kpt n l)] = .ok r) : runC (t32 Φ) ["contract", "numbers", "number"] ["contract", "numbers"] [c, nT l] = .ok r := by
  have hr := cRange1_nat (n := n) (a := cCall Φ 16 [cVarB 0] [some 0]) (ρ := [.dat c false, .dat (nT l) false, .no]) (by simp [h16]) (by omega)
  rw [natD_upTo] at hr
  have hq := compL_on PyData.int (fun m => !decide (m ∈ l)) PyData.int (i := 2) (t := q32_0 Φ) (e := c32_0 Φ) (ρ := [.dat c false, .dat (nT l) false, .no]) (l := upTo n) (by
    intro m hm
    have a1 := notInD_int m l
    constructor
    · simp [q32_0, nT, a1]
    · intro _; simp [c32_0])
  have h19' : Φ 19 [c, .tuple (List.map PyData.int (List.filter (fun m => !decide (m ∈ l)) (upTo n)))] = .ok r := h19
  have s2 : disow [2] (sRet (cCall Φ 19 [cVarB 0, c1 tupleD (cComp (cRange1 (cCall Φ 16 [cVarB 0] [some 0])) [2] (.one 2) (q32_0 Φ) (c32_0 Φ))] [some 0, none])) [.dat c false, .dat (nT l) false, .no] = .rt r := by
    simp [-cRange1_ap, hr, hq, h19']
  have s1 : sIf (cNotT (cTst (cCall Φ 2 [cVarB 1, cCall Φ 16 [cVarB 0] [some 0]] [some 1, none]))) (sSeq (disow [] (sRaise G "InvalidOrder" [cK (.str "not numbers of clauses")])) (sNx)) (sNx) [.dat c false, .dat (nT l) false, .no] = .nx [.dat c false, .dat (nT l) false, .no] := by
    simp [h16, h2]
  rw [run_of (ρ := [.dat c false, .dat (nT l) false, .no]) rfl rfl]
  unfold t32
  rw [seq_nx s1, seq_rt s2, end_rt]
theorem v32 (k : Nat) (c : Ct) (l : List Int) (hc : c.Ok) (hl : Asc c.cs.length l) : Ev (k + 7) 32 [c.d, nT l] = .ok (keepD c (kpt c.cs.length l)) := by
  have a1 : Ev (k + 6) 16 [c.d] = .ok (.int c.cs.length) := w16 (k + 5) c
  have a2 : Ev (k + 6) 2 [nT l, .int c.cs.length] = .ok (.bool true) := v2_asc (k := k + 4) hl
  exact (e32 (k + 6) _).trans (u32_ok (Ev (k + 6)) _ l _ _ (Nat.le_trans hc.few (by decide)) a1 a2 (v19 k c _ hc (asc_kpt _ _)))
end Pv.K42


namespace Pv.K42
open PySem PySem.Spec L2
open PyProof.Rows hiding St

theorem u33_no (Φ : Ph) (c d : PyData) (h17 : Φ 17 [c, d] = .exc "NoSuchClause" [d]) : runC (t33 Φ) ["contract", "number"] ["contract", "number"] [c, d] = .exc "NoSuchClause" [d] := by
  simp [t33, h17]
theorem u33_ok (Φ : Ph) (c d x r : PyData) (h17 : Φ 17 [c, d] = .ok x) (h32 : Φ 32 [c, .tuple [d]] = .ok r) : runC (t33 Φ) ["contract", "number"] ["contract", "number"] [c, d] = .ok r := by
  simp [t33, h17, h32]
theorem u44_with (Φ : Ph) (c d s : PyData) : runC (t44 Φ) ["word", "contract", "number", "second"] ["word", "contract", "number", "second"] [.str "with", c, d, s] = Φ 26 [c, d, s] := by
  cases h : Φ 26 [c, d, s] <;> simp +decide [t44, h]
theorem u44_without (Φ : Ph) (c d s : PyData) : runC (t44 Φ) ["word", "contract", "number", "second"] ["word", "contract", "number", "second"] [.str "without", c, d, s] = Φ 28 [c, d] := by
  cases h : Φ 28 [c, d] <;> simp +decide [t44, h]
theorem u44_struck (Φ : Ph) (c d s : PyData) : runC (t44 Φ) ["word", "contract", "number", "second"] ["word", "contract", "number", "second"] [.str "struck", c, d, s] = Φ 33 [c, d] := by
  cases h : Φ 33 [c, d] <;> simp +decide [t44, h]
theorem u44_all (Φ : Ph) (c d s : PyData) : runC (t44 Φ) ["word", "contract", "number", "second"] ["word", "contract", "number", "second"] [.str "all", c, d, s] = Φ 32 [c, d] := by
  cases h : Φ 32 [c, d] <;> simp +decide [t44, h]
end Pv.K42


namespace Pv.K42
open PySem PySem.Spec L2
open PyProof.Rows hiding St

/-! ### plain data -/
theorem plain_nT (n : Nat) {l : List Int} (h : l.length ≤ 1000) : plainD (n + 2) (nT l) = true := by
  simp [nT, plainD, h]
theorem plain_nO (n : Nat) {o : Option (List Int)} (h : ∀ l, o = some l → l.length ≤ 1000) : plainD (n + 2) (nO o) = true := by
  cases o with
  | none => rfl
  | some l => exact plain_nT n (h l rfl)
def Cl.Few (c : Cl) : Prop := (∀ l, c.dn = some l → l.length ≤ 1000) ∧ (∀ l, c.lp = some l → l.length ≤ 1000)
theorem plain_cl (n : Nat) {c : Cl} (h : c.Few) : plainD (n + 3) c.d = true := by
  have h1 := plain_nO n h.1
  have h2 := plain_nO n h.2
  simp [Cl.d, plainD, h1, h2]
theorem fewO {lim : Nat} {o : Option (List Int)} (h : AscO lim o) (hl : lim ≤ 1000) : ∀ l, o = some l → l.length ≤ 1000 := by
  intro l e
  subst e
  exact Nat.le_trans (asc_len h) hl
theorem Cl.Ok.few {c : Cl} (h : c.Ok) : c.Few := ⟨fewO (lim := 16) h.dn (by decide), fewO (lim := 16) h.lp (by decide)⟩
theorem plain_cls (n : Nat) {ds : List PyData} {l : List Int} (hl : l.length ≤ 1000) (hd : ds.length ≤ 1000) (h : ∀ d ∈ ds, plainD (n + 3) d = true) : plainD (n + 5) (.tuple [.tuple ds, nT l]) = true := by
  have h1 := plain_nT (n + 2) hl
  have h2 : ds.all (plainD (n + 3)) = true := List.all_eq_true.mpr h
  show (decide ([PyData.tuple ds, nT l].length ≤ 1000) && [PyData.tuple ds, nT l].all (plainD (n + 4))) = true
  simp only [List.all_cons, List.all_nil, Bool.and_true]
  rw [h1]
  show (decide _ && (decide (ds.length ≤ 1000) && ds.all (plainD (n + 3)) && true)) = true
  rw [h2]
  simp [hd]
def Leaf (d : PyData) : Prop := ∀ n, plainD (n + 1) d = true
theorem leaf_int (i : Int) : Leaf (.int i) := fun _ => rfl
theorem leaf_bool (i : Bool) : Leaf (.bool i) := fun _ => rfl
theorem leaf_none : Leaf .none := fun _ => rfl
theorem plain_two (n : Nat) {w : Str} {d : PyData} (h : plainD (n + 1) d = true) : plainD (n + 2) (.tuple [.str w, d]) = true := by
  show (decide (2 ≤ 1000) && (plainD (n + 1) (.str w) && (plainD (n + 1) d && true))) = true
  rw [h]
  rfl
theorem plain_ct (n : Nat) {c : Ct} (h : c.cs.length ≤ 1000) (ho : c.op.length ≤ 1000) (hf : ∀ x ∈ c.cs, x.Few) : plainD (n + 5) c.d = true := by
  refine plain_cls n ho (by simpa using h) ?_
  intro d hd
  obtain ⟨x, hx, rfl⟩ := List.mem_map.mp hd
  exact plain_cl n (hf x hx)
theorem few_set {cs : List Cl} {i : Nat} {y : Cl} (h : ∀ x ∈ cs, x.Few) (hy : y.Few) : ∀ x ∈ cs.set i y, x.Few := by
  intro x hx
  rcases List.mem_or_eq_of_mem_set hx with hx | rfl
  · exact h x hx
  · exact hy
theorem few_map {c : Cl} {f : List Int → List Int} (hf : ∀ l, (f l).length ≤ l.length) (h : c.Few) : Cl.Few { c with dn := c.dn.map f, lp := c.lp.map f } := by
  constructor
  · intro l e
    cases hd : c.dn with
    | none => rw [hd] at e; cases e
    | some m => rw [hd] at e; cases e; exact Nat.le_trans (hf m) (h.1 m hd)
  · intro l e
    cases hd : c.lp with
    | none => rw [hd] at e; cases e
    | some m => rw [hd] at e; cases e; exact Nat.le_trans (hf m) (h.2 m hd)
theorem Ct.Ok.opn {c : Ct} (h : c.Ok) : c.op.length ≤ 1000 := Nat.le_trans (asc_len h.op) (Nat.le_trans h.few (by decide))
theorem Ct.Ok.fews {c : Ct} (h : c.Ok) : ∀ x ∈ c.cs, x.Few := fun x hx => (h.cl x hx).1.few
end Pv.K42


namespace Pv.K42
open PySem PySem.Spec L2
open PyProof.Rows hiding St

theorem hasN_get {c : Ct} {d : PyData} (h : hasN c.cs.length d = true) : ∃ (i : Nat) (x : Cl), d = .int i ∧ c.cs[i]? = some x ∧ x ∈ c.cs := by
  obtain ⟨i, hi, rfl⟩ := hasN_int h
  exact ⟨i, c.cs[i], rfl, List.getElem?_eq_getElem hi, List.getElem_mem hi⟩
theorem told_x {k : Nat} {w c d s r : PyData} {e : R PyData} (h44 : Ev (k + 1) 44 [w, c, d, s] = e)
    (h : (∃ n, e = .exc "NoSuchClause" [n] ∧ r = .tuple [.str "clause", n]) ∨ (∃ n, e = .exc "NoBreach" [n] ∧ r = .tuple [.str "breach", n]) ∨ (e = .exc "TooMany" [.int 16, .str "clauses"] ∧ r = .tuple [.str "many", .str "clauses", .int 16]) ∨ (e = .exc "InvalidOrder" [] ∧ r = .tuple [.str "order"]) ∨ (∃ z, e = .ok z ∧ r = .tuple [.str "contract", z])) : Ev (k + 2) 45 [w, c, d, s] = .ok r := by
  refine (e45 (k + 1) _).trans ?_
  rcases h with ⟨n, rfl, rfl⟩ | ⟨n, rfl, rfl⟩ | ⟨rfl, rfl⟩ | ⟨rfl, rfl⟩ | ⟨z, rfl, rfl⟩
  · exact u45_1 _ _ _ _ _ _ h44
  · exact u45_2 _ _ _ _ _ _ h44
  · exact u45_3 _ _ _ _ _ h44
  · exact u45_4 _ _ _ _ _ h44
  · exact u45_ok _ _ _ _ _ _ h44
theorem asc16 {n m : Nat} {l : List Int} (h : Asc m l) (hn : n + m ≤ 16) : Asc 16 (mv n l) := by
  refine ⟨asc_mv _ h.1, ?_⟩
  intro x hx
  unfold mv at hx
  obtain ⟨y, hy, rfl⟩ := List.mem_map.mp hx
  have := h.2 y hy
  omega
theorem few_mend {x : Cl} (h : x.Few) {l : List Int} (hl : l.length ≤ 1000) : (x.mend l).Few := by
  unfold Cl.mend
  split
  · exact ⟨fun m e => by cases e; exact hl, h.2⟩
  · exact ⟨h.1, fun m e => by cases e; exact hl⟩
theorem few_shift {x : Cl} (n : Int) (h : x.Few) : (x.shift n).Few := few_map (fun l => by simp [mv]) h
theorem plain_join {c s : Ct} (hc : c.Ok) (hs : s.Ok) (hn : c.cs.length + s.cs.length ≤ 16) {x : Cl} (hm : x ∈ c.cs) (xok : x.Ok) (i : Nat) (hi : i < c.cs.length) : plainD 9 (.tuple [.str "contract", .tuple [.tuple ((c.setC i (x.mend (mv c.cs.length s.op))).cs.map Cl.d ++ (s.cs.map (Cl.shift c.cs.length)).map Cl.d), nT c.op]]) = true := by
  refine plain_two 7 (plain_cls 3 hc.opn ?_ ?_)
  · simp [Ct.setC]; omega
  · intro d hd
    rcases List.mem_append.mp hd with hd | hd
    · obtain ⟨y, hy, rfl⟩ := List.mem_map.mp hd
      refine plain_cl 3 (few_set hc.fews (few_mend xok.few ?_) y hy)
      have := hs.opn
      simp [mv]
      exact this
    · obtain ⟨y, hy, rfl⟩ := List.mem_map.mp hd
      obtain ⟨z, hz, rfl⟩ := List.mem_map.mp hy
      exact plain_cl 3 (few_shift _ (hs.fews z hz))
theorem told_with (k m : Nat) {c s : Ct} (hc : c.Ok) (hs : s.Ok) (d : PyData) (hd : Leaf d) : ∃ r, Ev (k + 9) 45 [.str "with", c.d, d, s.d] = .ok r ∧ Ev (m + 4) 48 [c.d, d, s.d] = .ok r ∧ plainD 9 r = true := by
  have t44 : ∀ e, Ev (k + 7) 26 [c.d, d, s.d] = e → Ev (k + 8) 44 [.str "with", c.d, d, s.d] = e := fun e h => ((e44 (k + 7) _).trans (u44_with _ _ _ _)).trans h
  have a46 : Ev (m + 3) 46 [c.d, d] = .ok (.bool (hasN c.cs.length d)) := v46 (m + 2) c d
  cases hN : hasN c.cs.length d with
  | false =>
    rw [hN] at a46
    have a17 : Ev (k + 6) 17 [c.d, d] = .exc "NoSuchClause" [d] := v17_no (k + 3) c d hN
    refine ⟨_, told_x (k := k + 7) (t44 _ ((e26 (k + 6) _).trans (u26_no _ _ _ _ a17))) (.inl ⟨d, rfl, rfl⟩), ?_, plain_two 7 (hd 7)⟩
    exact (e48 (m + 3) _).trans (u48_no _ _ _ _ a46)
  | true =>
    rw [hN] at a46
    obtain ⟨i, x, rfl, hx, hm⟩ := hasN_get hN
    have hi := (List.getElem?_eq_some_iff.mp hx).1
    obtain ⟨xok, g1, g2⟩ := hc.cl x hm
    have a17 : Ev (k + 6) 17 [c.d, .int i] = .ok x.d := v17 (k + 3) c i x hx
    have a23 : Ev (k + 6) 23 [x.d] = .ok (.str x.fault) := v23c (k + 4) x
    have a10 : x.fault ≠ "" → Ev (k + 6) 10 [x.d, .str x.fault] = .ok (.bool x.brk) := v10f xok (k + 4)
    have l1 : ixD (.tuple (c.cs.map Cl.d)) (.int i) = .ok x.d := ixT_nat (by simp [hx])
    have l4 : ixD x.d (.int 4) = .ok (nO x.dn) := ix4 ..
    have l5 : ixD x.d (.int 5) = .ok (nO x.lp) := ix5 ..
    cases hb : x.brk with
    | false =>
      rw [hb] at a10
      refine ⟨_, told_x (k := k + 7) (t44 _ ((e26 (k + 6) _).trans (u26_nb _ _ _ _ _ _ a17 a23 a10))) (.inr (.inl ⟨_, rfl, rfl⟩)), ?_, plain_two 7 rfl⟩
      unfold Cl.brk at hb
      rw [Bool.or_eq_false_iff] at hb
      exact (e48 (m + 3) _).trans (u48_nb (Ev (m + 3)) (.tuple (c.cs.map Cl.d)) (nT c.op) _ s.d _ _ _ a46 l1 l4 l5 (by rw [isNone_nO]; exact hb.1) (by rw [isNone_nO]; exact hb.2))
    | true =>
      rw [hb] at a10
      have a16 : Ev (k + 6) 16 [c.d] = .ok (.int c.cs.length) := w16 (k + 5) c
      have a16s : Ev (k + 6) 16 [s.d] = .ok (.int s.cs.length) := w16 (k + 5) s
      by_cases hn : c.cs.length + s.cs.length ≤ 16
      · have hl := asc16 hs.op hn
        obtain ⟨hz, a14⟩ := v14f xok k hl hb
        have a20 : Ev (k + 6) 20 [.int (c.cs.length + s.cs.length)] = .ok .none := v20 (k + 5) _ hn
        have a21 : Ev (k + 6) 21 [nT s.op, .int c.cs.length] = .ok (nT (mv c.cs.length s.op)) := v21 (k + 5) _ _
        have a24 : Ev (k + 6) 24 [c.d, .int i, (x.mend (mv c.cs.length s.op)).d] = .ok (c.setC i (x.mend (mv c.cs.length s.op))).d := v24 (k + 5) c i _ hi (Nat.le_trans hc.few (by decide))
        have a22 : Ev (k + 6) 22 [s.d, .int c.cs.length] = .ok (.tuple ((s.cs.map (Cl.shift c.cs.length)).map Cl.d)) := v22 (k + 1) s _ hs
        have a42 : Ev (m + 3) 42 [nT s.op, .int c.cs.length] = .ok (nO (some (mv c.cs.length s.op))) := v42 (m + 2) (some s.op) _
        have a43 : Ev (m + 3) 43 [s.d, .int c.cs.length] = .ok (.tuple ((s.cs.map (Cl.shift c.cs.length)).map Cl.d)) := v43 (m + 1) s _ hs
        have hlen : ((c.setC i (x.mend (mv c.cs.length s.op))).cs.map Cl.d).length + ((s.cs.map (Cl.shift c.cs.length)).map Cl.d).length ≤ sizeLine := by
          have : sizeLine = 16777216 := rfl
          simp [Ct.setC]; omega
        have P := u26_ok (Ev (k + 6)) c.d (.int i) s.d x.d (x.mend (mv c.cs.length s.op)).d (nT s.op) (nT (mv c.cs.length s.op)) .none (nT c.op) ((c.setC i (x.mend (mv c.cs.length s.op))).cs.map Cl.d) ((s.cs.map (Cl.shift c.cs.length)).map Cl.d) [] x.fault c.cs.length s.cs.length a17 a23 hz (a10 hz) a16 a16s a20 (ixT_1 ..) a21 a14 a24 a22 hlen
        refine ⟨_, told_x (k := k + 7) (t44 _ ((e26 (k + 6) _).trans P)) (.inr (.inr (.inr (.inr ⟨_, rfl, rfl⟩)))), ?_, ?pl⟩
        case pl => exact plain_join hc hs hn hm xok i hi
        have hpp : ∃ p : Int, ((isNoneD (nO x.dn) = true ∧ p = 4) ∨ (isNoneD (nO x.dn) = false ∧ isNoneD (nO x.lp) = true ∧ p = 5)) ∧ ((p = 4 ∧ x.mend (mv c.cs.length s.op) = { x with dn := some (mv c.cs.length s.op) }) ∨ (p = 5 ∧ x.mend (mv c.cs.length s.op) = { x with lp := some (mv c.cs.length s.op) })) := by
          unfold Cl.brk at hb
          unfold Cl.mend
          rw [isNone_nO, isNone_nO]
          cases hd : x.dn.isNone with
          | true => exact ⟨4, .inl ⟨rfl, rfl⟩, .inl ⟨rfl, if_pos rfl⟩⟩
          | false => exact ⟨5, .inr ⟨rfl, by rw [hd] at hb; simpa using hb, rfl⟩, .inr ⟨rfl, if_neg (by simp)⟩⟩
        obtain ⟨p, hp1, hp2⟩ := hpp
        have a47 : Ev (m + 3) 47 [c.d, .int i, .int p, nO (some (mv c.cs.length s.op))] = .ok (c.setC i (x.mend (mv c.cs.length s.op))).d := v47 (m + 2) c i x _ p _ hx (Nat.le_trans hc.few (by decide)) hp2
        exact (e48 (m + 3) _).trans (u48_ok (Ev (m + 3)) (nT c.op) (.int i) (nT s.op) _ _ _ (nT c.op) (c.cs.map Cl.d) (s.cs.map Cl.d) _ ((c.setC i (x.mend (mv c.cs.length s.op))).cs.map Cl.d) _ p a46 l1 l4 l5 hp1 (by rw [List.length_map, List.length_map]; exact hn) (by rw [List.length_map]; exact a42) a47 (by rw [List.length_map]; exact a43) hlen)
      · have a20 : Ev (k + 6) 20 [.int (c.cs.length + s.cs.length)] = .exc "TooMany" [.int 16, .str "clauses"] := v20_no (k + 5) _ (by omega)
        have hz : x.fault ≠ "" := (v14f xok 0 (l := []) ⟨List.Pairwise.nil, by simp⟩ hb).1
        refine ⟨_, told_x (k := k + 7) (t44 _ ((e26 (k + 6) _).trans (u26_many _ _ _ _ _ _ _ _ a17 a23 hz (a10 hz) a16 a16s a20))) (.inr (.inr (.inl ⟨rfl, rfl⟩))), ?_, rfl⟩
        exact (e48 (m + 3) _).trans (u48_many (Ev (m + 3)) (nT c.op) (.int i) (nT s.op) _ _ (c.cs.map Cl.d) (s.cs.map Cl.d) _ a46 l1 l4 l5 (by rw [isNone_nO, isNone_nO]; exact hb) (by rw [List.length_map, List.length_map]; omega))
end Pv.K42


namespace Pv.K42
open PySem PySem.Spec L2
open PyProof.Rows hiding St

theorem told_without (k m : Nat) {c : Ct} (hc : c.Ok) (d s : PyData) (hd : Leaf d) : ∃ r, Ev (k + 10) 45 [.str "without", c.d, d, s] = .ok r ∧ Ev (m + 4) 50 [c.d, d] = .ok r ∧ plainD 9 r = true := by
  have t44 : ∀ e, Ev (k + 8) 28 [c.d, d] = e → Ev (k + 9) 44 [.str "without", c.d, d, s] = e := fun e h => ((e44 (k + 8) _).trans (u44_without _ _ _ _)).trans h
  have a46 : Ev (m + 3) 46 [c.d, d] = .ok (.bool (hasN c.cs.length d)) := v46 (m + 2) c d
  cases hN : hasN c.cs.length d with
  | false =>
    rw [hN] at a46
    have a17 : Ev (k + 7) 17 [c.d, d] = .exc "NoSuchClause" [d] := v17_no (k + 4) c d hN
    refine ⟨_, told_x (k := k + 8) (t44 _ ((e28 (k + 7) _).trans (u28_no _ _ _ a17))) (.inl ⟨d, rfl, rfl⟩), ?_, plain_two 7 (hd 7)⟩
    exact (e50 (m + 3) _).trans (u50_no _ _ _ a46)
  | true =>
    rw [hN] at a46
    obtain ⟨i, x, rfl, hx, hm⟩ := hasN_get hN
    have hi := (List.getElem?_eq_some_iff.mp hx).1
    obtain ⟨xok, g1, g2⟩ := hc.cl x hm
    have a17 : Ev (k + 7) 17 [c.d, .int i] = .ok x.d := v17 (k + 4) c i x hx
    have a23 : Ev (k + 7) 23 [x.d] = .ok (.str x.fault) := v23c (k + 5) x
    have l1 : ixD (.tuple (c.cs.map Cl.d)) (.int i) = .ok x.d := ixT_nat (by simp [hx])
    have a49 : Ev (m + 3) 49 [x.d] = .ok (.int (if x.kd = "must" then 5 else if x.kd = "ban" then 4 else -1)) := v49 (m + 2) x
    by_cases hf : x.fault = ""
    · rw [hf] at a23
      refine ⟨_, told_x (k := k + 8) (t44 _ ((e28 (k + 7) _).trans (u28_nb _ _ _ _ a17 a23))) (.inr (.inl ⟨_, rfl, rfl⟩)), ?_, plain_two 7 rfl⟩
      have hp : (if x.kd = "must" then (5 : Int) else if x.kd = "ban" then 4 else -1) < 0 := by
        unfold Cl.fault at hf
        by_cases h1 : x.kd = "ban"
        · rw [if_pos h1] at hf; exact absurd hf (by decide)
        · by_cases h2 : x.kd = "must"
          · rw [if_neg h1, if_pos h2] at hf; exact absurd hf (by decide)
          · rw [if_neg h2, if_neg h1]; decide
      exact (e50 (m + 3) _).trans (u50_nb (Ev (m + 3)) (.tuple (c.cs.map Cl.d)) (nT c.op) _ _ _ a46 l1 a49 hp)
    · have a27 : Ev (k + 7) 27 [x.d] = .ok x.strict.d := v27 xok k
      have a24 : Ev (k + 7) 24 [c.d, .int i, x.strict.d] = .ok (c.setC i x.strict).d := v24 (k + 6) c i _ hi (Nat.le_trans hc.few (by decide))
      refine ⟨_, told_x (k := k + 8) (t44 _ ((e28 (k + 7) _).trans (u28_ok _ _ _ _ _ _ _ a17 a23 hf a27 a24))) (.inr (.inr (.inr (.inr ⟨_, rfl, rfl⟩)))), ?_, ?pl⟩
      case pl => exact plain_two 7 (plain_ct 3 (c := c.setC i x.strict) (by have := hc.few; simp [Ct.setC]; omega) hc.opn (few_set hc.fews xok.strict.few))
      have hpp : ∃ p : Int, (if x.kd = "must" then (5 : Int) else if x.kd = "ban" then 4 else -1) = p ∧ ¬ p < 0 ∧ ((p = 4 ∧ x.strict = { x with dn := none }) ∨ (p = 5 ∧ x.strict = { x with lp := none })) := by
        unfold Cl.fault at hf
        unfold Cl.strict
        by_cases h1 : x.kd = "ban"
        · have h2 : ¬ x.kd = "must" := by rw [h1]; decide
          exact ⟨4, by rw [if_neg h2, if_pos h1], by decide, .inl ⟨rfl, if_pos h1⟩⟩
        · by_cases h2 : x.kd = "must"
          · exact ⟨5, if_pos h2, by decide, .inr ⟨rfl, by rw [if_neg h1, if_pos h2]⟩⟩
          · exact absurd (by rw [if_neg h1, if_neg h2]) hf
      obtain ⟨p, hp0, hp1, hp2⟩ := hpp
      rw [hp0] at a49
      have a47 : Ev (m + 3) 47 [c.d, .int i, .int p, .none] = .ok (c.setC i x.strict).d := v47 (m + 2) c i x _ p none hx (Nat.le_trans hc.few (by decide)) hp2
      exact (e50 (m + 3) _).trans (u50_ok (Ev (m + 3)) (.tuple (c.cs.map Cl.d)) (nT c.op) _ _ _ p a46 l1 a49 hp1 a47)
/-- struck_all over good numbers -/
theorem told_all (k : Nat) {c : Ct} (hc : c.Ok) {l : List Int} (hl : Asc c.cs.length l) (s : PyData) : ∃ r, Ev (k + 9) 45 [.str "all", c.d, nT l, s] = .ok r ∧ Ev (k + 2) 52 [c.d, nT l] = .ok r :=
  ⟨_, told_x (k := k + 7) (((e44 (k + 7) _).trans (u44_all _ _ _ _)).trans (v32 k c l hc hl)) (.inr (.inr (.inr (.inr ⟨_, rfl, rfl⟩)))), v52 k c l hc⟩
/-- .. over others -/
theorem told_order (k : Nat) {c : Ct} (d s : PyData) (h : Ev (k + 6) 2 [d, .int c.cs.length] = .ok (.bool false)) : Ev (k + 9) 45 [.str "all", c.d, d, s] = .ok (.tuple [.str "order"]) := by
  have a16 : Ev (k + 6) 16 [c.d] = .ok (.int c.cs.length) := w16 (k + 5) c
  exact told_x (k := k + 7) (((e44 (k + 7) _).trans (u44_all _ _ _ _)).trans ((e32 (k + 6) _).trans (u32_no _ _ _ _ a16 h))) (.inr (.inr (.inr (.inl ⟨rfl, rfl⟩))))
/-- one clause struck -/
theorem told_struck (k : Nat) {c : Ct} (hc : c.Ok) (d s : PyData) : ∃ r, Ev (k + 10) 45 [.str "struck", c.d, d, s] = .ok r ∧ ((hasN c.cs.length d = false ∧ r = .tuple [.str "clause", d]) ∨ (hasN c.cs.length d = true ∧ Ev (k + 2) 52 [c.d, .tuple [d]] = .ok r)) := by
  have t44 : ∀ e, Ev (k + 8) 33 [c.d, d] = e → Ev (k + 9) 44 [.str "struck", c.d, d, s] = e := fun e h => ((e44 (k + 8) _).trans (u44_struck _ _ _ _)).trans h
  cases hN : hasN c.cs.length d with
  | false =>
    have a17 : Ev (k + 7) 17 [c.d, d] = .exc "NoSuchClause" [d] := v17_no (k + 4) c d hN
    exact ⟨_, told_x (k := k + 8) (t44 _ ((e33 (k + 7) _).trans (u33_no _ _ _ a17))) (.inl ⟨d, rfl, rfl⟩), .inl ⟨rfl, rfl⟩⟩
  | true =>
    obtain ⟨i, x, rfl, hx, hm⟩ := hasN_get hN
    have hi := (List.getElem?_eq_some_iff.mp hx).1
    have a17 : Ev (k + 7) 17 [c.d, .int i] = .ok x.d := v17 (k + 4) c i x hx
    have hl : Asc c.cs.length [(i : Int)] := ⟨List.pairwise_singleton .., by simp; omega⟩
    have a32 : Ev (k + 7) 32 [c.d, .tuple [.int i]] = .ok (keepD c (kpt c.cs.length [(i : Int)])) := v32 k c [(i : Int)] hc hl
    exact ⟨_, told_x (k := k + 8) (t44 _ ((e33 (k + 7) _).trans (u33_ok _ _ _ _ _ a17 a32))) (.inr (.inr (.inr (.inr ⟨_, rfl, rfl⟩)))), .inr ⟨rfl, v52 k c [(i : Int)] hc⟩⟩
end Pv.K42


namespace Pv.K42
open PySem PySem.Spec L2
open PyProof.Rows hiding St

/-! ### forms -/
theorem nO_some (l : List Int) : nO (some l) = nT l := rfl
def Cl.forgive (c : Cl) : Cl := { c with dn := some (c.dn.getD []), lp := some (c.lp.getD []) }
theorem v30 (k : Nat) (c : Cl) : Ev (k + 3) 30 [c.d] = .ok c.forgive.d := by
  have a1 : Ev (k + 2) 9 [c.d, .str "done"] = .ok (nT (c.dn.getD [])) := v9c k c "done"
  have a2 : Ev (k + 2) 9 [c.d, .str "lapsed"] = .ok (nT (c.lp.getD [])) := v9c k c "lapsed"
  rw [e30]
  rw [Cl.d] at a1 a2 ⊢
  simp [t30, a1, a2, slD, cut4, add42, Cl.forgive, Cl.d, nO_some]
theorem u29 (Φ : Ph) (c : Ct) (h27 : ∀ x ∈ c.cs, Φ 27 [x.d] = .ok x.strict.d) : runC (t29 Φ) ["contract", "clause"] ["contract"] [c.d] = .ok (.tuple [.tuple (c.cs.map fun x => x.strict.d), nT c.op]) := by
  have hq := compL_on_all Cl.d (fun x => x.strict.d) (i := 1) (e := c29_0 Φ) (ρ := [.dat c.d false, .no]) (l := c.cs) (by
    intro x hx
    simp [c29_0, h27 x hx])
  have a3 : ixD c.d (.int 0) = .ok (.tuple (c.cs.map Cl.d)) := ixT_0 ..
  have a4 : ixD c.d (.int 1) = .ok (nT c.op) := ixT_1 ..
  simp [t29, a3, a4, hq]
theorem u31 (Φ : Ph) (c : Ct) (h30 : ∀ x ∈ c.cs, Φ 30 [x.d] = .ok x.forgive.d) : runC (t31 Φ) ["contract", "clause"] ["contract"] [c.d] = .ok (.tuple [.tuple (c.cs.map fun x => x.forgive.d), nT c.op]) := by
  have hq := compL_on_all Cl.d (fun x => x.forgive.d) (i := 1) (e := c31_0 Φ) (ρ := [.dat c.d false, .no]) (l := c.cs) (by
    intro x hx
    simp [c31_0, h30 x hx])
  have a3 : ixD c.d (.int 0) = .ok (.tuple (c.cs.map Cl.d)) := ixT_0 ..
  have a4 : ixD c.d (.int 1) = .ok (nT c.op) := ixT_1 ..
  simp [t31, a3, a4, hq]
theorem v29 (k : Nat) {c : Ct} (hc : c.Ok) : Ev (k + 8) 29 [c.d] = .ok (.tuple [.tuple (c.cs.map fun x => x.strict.d), nT c.op]) :=
  (e29 (k + 7) _).trans (u29 _ c fun x hx => v27 (hc.cl x hx).1 k)
theorem v31 (k : Nat) (c : Ct) : Ev (k + 4) 31 [c.d] = .ok (.tuple [.tuple (c.cs.map fun x => x.forgive.d), nT c.op]) :=
  (e31 (k + 3) _).trans (u31 _ c fun x hx => v30 k x)
end Pv.K42


namespace Pv.K42
open PySem PySem.Spec L2
open PyProof.Rows hiding St

def plD (i : Nat) (x : Cl) : List PyData := (if x.dn.isNone = true then [.tuple [natD i, .str "done"]] else []) ++ (if x.lp.isNone = true then [.tuple [natD i, .str "lapsed"]] else [])
theorem u25_body (Φ : Ph) (c : Ct) (i : Nat) (x : Cl) (hx : c.cs[i]? = some x) (P : List PyData) (w : Sl) (hP : P.length < 1000) (h1 : Φ 10 [x.d, .str "done"] = .ok (.bool x.dn.isNone)) (h2 : Φ 10 [x.d, .str "lapsed"] = .ok (.bool x.lp.isNone)) :
    b25_1 Φ [.dat c.d false, .dat (.list P) true, .dat (natD i) false, w] = .nx [.dat c.d false, .dat (.list (P ++ plD i x)) true, .dat (natD i) false, .dat (.str "lapsed") false] := by
  have l1 : ixD (.tuple (c.cs.map Cl.d)) (.int i) = .ok x.d := ixT_nat (by simp [hx])
  have a3 : ixD c.d (.int 0) = .ok (.tuple (c.cs.map Cl.d)) := ixT_0 ..
  have n1 : P.length < 16000000 := by omega
  have n2 : P.length + 1 < 16000000 := by omega
  cases e1 : x.dn.isNone <;> cases e2 : x.lp.isNone <;> rw [e1] at h1 <;> rw [e2] at h2 <;> simp [b25_1, b25_0, natD, a3, l1, h1, h2, plD, e1, e2, n1, n2]
/-- the places of the first clauses -/
def plsD (cs : List Cl) : Nat → List PyData
  | 0 => []
  | n + 1 => plsD cs n ++ (match cs[n]? with | some x => plD n x | none => [])
theorem plsD_len (cs : List Cl) : ∀ n, (plsD cs n).length ≤ 2 * n
  | 0 => Nat.le_refl _
  | n + 1 => by
    have := plsD_len cs n
    unfold plsD
    rw [List.length_append]
    cases cs[n]? with
    | none => simp; omega
    | some x => cases e1 : x.dn.isNone <;> cases e2 : x.lp.isNone <;> simp [plD, e1, e2] <;> omega
theorem plsD_succ {cs : List Cl} {n : Nat} {x : Cl} (hx : cs[n]? = some x) : plsD cs (n + 1) = plsD cs n ++ plD n x := by
  show plsD cs n ++ (match cs[n]? with | some x => plD n x | none => []) = _
  rw [hx]
theorem range_at {n : Nat} {done rest : List Nat} {a : Nat} (e : List.range n = done ++ a :: rest) : done.length < n ∧ a = done.length := by
  have h1 : (List.range n)[done.length]? = some a := by rw [e]; simp
  obtain ⟨h3, h4⟩ := List.getElem?_eq_some_iff.mp h1
  simp at h3 h4
  exact ⟨h3, h4.symm⟩
theorem u25 (Φ : Ph) (c : Ct) (hc : c.Ok) (h16 : Φ 16 [c.d] = .ok (.int c.cs.length)) (h10 : ∀ x ∈ c.cs, Φ 10 [x.d, .str "done"] = .ok (.bool x.dn.isNone) ∧ Φ 10 [x.d, .str "lapsed"] = .ok (.bool x.lp.isNone)) : runC (t25 Φ) ["contract", "places", "number", "ending"] ["contract"] [c.d] = .ok (.list (plsD c.cs c.cs.length)) := by
  have hfew := hc.few
  have hr := cRange1_nat (n := c.cs.length) (a := cCall Φ 16 [cVarB 0] [some 0]) (ρ := [.dat c.d false, .dat (.list []) true, .no, .no]) (by simp [h16]) (by omega)
  obtain ⟨ρ', h1, y, z, rfl⟩ := forL_inv natD (fun done ρ => ∃ y z, ρ = [.dat c.d false, .dat (.list (plsD c.cs done.length)) true, y, z]) (i := 2) (b := b25_1 Φ) (List.range c.cs.length) (by
    rintro done a rest ρ e ⟨y, z, rfl⟩
    obtain ⟨hj, rfl⟩ := range_at e
    have hx : c.cs[done.length]? = some c.cs[done.length] := List.getElem?_eq_getElem hj
    obtain ⟨g1, g2⟩ := h10 _ (List.getElem_mem hj)
    have hl := plsD_len c.cs done.length
    have := u25_body Φ c done.length _ hx (plsD c.cs done.length) z (by omega) g1 g2
    refine ⟨_, .inl this, .dat (natD done.length) false, .dat (.str "lapsed") false, ?_⟩
    rw [List.length_append]
    show _ = [_, Sl.dat (.list (plsD c.cs (done.length + 1))) true, _, _]
    rw [plsD_succ hx]) (ρ := [.dat c.d false, .dat (.list []) true, .no, .no]) ⟨.no, .no, rfl⟩
  rw [List.length_range] at h1
  have s1 : disow [] (sSet 1 true (cLst [])) [.dat c.d false, .no, .no, .no] = .nx [.dat c.d false, .dat (.list []) true, .no, .no] := by simp
  have s2 := for_nx0 hr h1
  have s3 : disow [1] (sRet (cVar 1)) [.dat c.d false, .dat (.list (plsD c.cs c.cs.length)) true, y, z] = .rt (.list (plsD c.cs c.cs.length)) := by simp
  rw [run_of (ρ := [.dat c.d false, .no, .no, .no]) rfl rfl]
  unfold t25
  rw [seq_nx s1, seq_nx s2, seq_rt s3, end_rt]
theorem v25 (k : Nat) {c : Ct} (hc : c.Ok) : Ev (k + 3) 25 [c.d] = .ok (.list (plsD c.cs c.cs.length)) :=
  (e25 (k + 2) _).trans (u25 _ c hc (w16 (k + 1) c) fun x hx => ⟨v10c k x "done", v10c k x "lapsed"⟩)
end Pv.K42


namespace Pv.K42
open PySem PySem.Spec L2
open PyProof.Rows hiding St

theorem u54_in (Φ : Ph) (C S F w8 w9 : Sl) (i : Nat) (x : Cl) (P : List PyData) (w6 w7 : Sl) (hP : P.length < 1000) :
    ∃ y, forL (.one 6) (b54_0 Φ) [.str "done", .str "lapsed"] [C, .dat (.list P) true, S, F, .dat (natD i) false, .dat x.d false, w6, w7, w8, w9] = .nx [C, .dat (.list (P ++ plD i x)) true, S, F, .dat (natD i) false, .dat x.d false, y, w7, w8, w9] := by
  refine ⟨.dat (.str "lapsed") false, ?_⟩
  have l4 : ixD x.d (.int 4) = .ok (nO x.dn) := ix4 ..
  have l5 : ixD x.d (.int 5) = .ok (nO x.lp) := ix5 ..
  have n1 : P.length < 16000000 := by omega
  have n2 : P.length + 1 < 16000000 := by omega
  cases e1 : x.dn.isNone <;> cases e2 : x.lp.isNone <;> simp +decide [b54_0, natD, intD, l4, l5, isNone_nO, plD, e1, e2, n1, n2]
theorem strict_d (x : Cl) : x.strict.d = .tuple [.str x.kd, .str x.pt, .str x.ac, .int x.dy, if x.kd = "ban" then .none else nO x.dn, if x.kd = "must" then .none else nO x.lp] := by
  unfold Cl.strict
  by_cases h1 : x.kd = "ban"
  · have h2 : ¬ x.kd = "must" := by rw [h1]; decide
    rw [if_pos h1, if_pos h1, if_neg h2]; rfl
  · by_cases h2 : x.kd = "must"
    · rw [if_neg h1, if_pos h2, if_neg h1, if_pos h2]; rfl
    · rw [if_neg h1, if_neg h2, if_neg h1, if_neg h2]; rfl
theorem u54_body (Φ : Ph) (c : Ct) (i : Nat) (x : Cl) (hx : c.cs[i]? = some x) (P S F : List PyData) (w5 w6 w7 w8 w9 : Sl) (hP : P.length < 1000) (hS : S.length < 1000) (hF : F.length < 1000) :
    ∃ y, b54_1 Φ [.dat c.d false, .dat (.list P) true, .dat (.list S) true, .dat (.list F) true, .dat (natD i) false, w5, w6, w7, w8, .no] = .nx [.dat c.d false, .dat (.list (P ++ plD i x)) true, .dat (.list (S ++ [x.strict.d])) true, .dat (.list (F ++ [x.forgive.d])) true, .dat (natD i) false, .dat x.d false, y, .dat (if x.kd = "ban" then .none else nO x.dn) false, .dat (if x.kd = "must" then .none else nO x.lp) false, .no] := by
  have l1 : ixD (.tuple (c.cs.map Cl.d)) (.int i) = .ok x.d := ixT_nat (by simp [hx])
  have a3 : ixD c.d (.int 0) = .ok (.tuple (c.cs.map Cl.d)) := ixT_0 ..
  obtain ⟨y, hin⟩ := u54_in Φ (.dat c.d false) (.dat (.list S) true) (.dat (.list F) true) w8 .no i x P w6 w7 hP
  refine ⟨y, ?_⟩
  have l4 : ixD x.d (.int 4) = .ok (nO x.dn) := ix4 ..
  have l5 : ixD x.d (.int 5) = .ok (nO x.lp) := ix5 ..
  have l0 : ixD x.d (.int 0) = .ok (.str x.kd) := ixT_0 ..
  have n1 : S.length < 16000000 := by omega
  have n2 : F.length < 16000000 := by omega
  have s1 : disow [] (sSet 5 false (c2 ixD (c2 ixD (cVarB 0) (cK (.int 0))) (cVarB 4))) [.dat c.d false, .dat (.list P) true, .dat (.list S) true, .dat (.list F) true, .dat (natD i) false, w5, w6, w7, w8, .no] = .nx [.dat c.d false, .dat (.list P) true, .dat (.list S) true, .dat (.list F) true, .dat (natD i) false, .dat x.d false, w6, w7, w8, .no] := by
    simp [a3, natD, l1]
  have s2 : disow [] (sFor (cItE (cLst [cK (.str "done"), cK (.str "lapsed")])) (.one 6) (b54_0 Φ)) [.dat c.d false, .dat (.list P) true, .dat (.list S) true, .dat (.list F) true, .dat (natD i) false, .dat x.d false, w6, w7, w8, .no] = _ := for_nx0 (by simp) hin
  have s3 : disow [] (sSet 7 false (cIfE (cTst (c2 eqD (c2 ixD (cVarB 5) (cK (.int 0))) (cK (.str "ban")))) (cK .none) (c2 ixD (cVarB 5) (cK (.int 4))))) [.dat c.d false, .dat (.list (P ++ plD i x)) true, .dat (.list S) true, .dat (.list F) true, .dat (natD i) false, .dat x.d false, y, w7, w8, .no] = .nx [.dat c.d false, .dat (.list (P ++ plD i x)) true, .dat (.list S) true, .dat (.list F) true, .dat (natD i) false, .dat x.d false, y, .dat (if x.kd = "ban" then .none else nO x.dn) false, w8, .no] := by
    by_cases h : x.kd = "ban" <;> simp [l0, l4, h]
  have s4 : disow [] (sSet 8 false (cIfE (cTst (c2 eqD (c2 ixD (cVarB 5) (cK (.int 0))) (cK (.str "must")))) (cK .none) (c2 ixD (cVarB 5) (cK (.int 5))))) [.dat c.d false, .dat (.list (P ++ plD i x)) true, .dat (.list S) true, .dat (.list F) true, .dat (natD i) false, .dat x.d false, y, .dat (if x.kd = "ban" then .none else nO x.dn) false, w8, .no] = .nx [.dat c.d false, .dat (.list (P ++ plD i x)) true, .dat (.list S) true, .dat (.list F) true, .dat (natD i) false, .dat x.d false, y, .dat (if x.kd = "ban" then .none else nO x.dn) false, .dat (if x.kd = "must" then .none else nO x.lp) false, .no] := by
    by_cases h : x.kd = "must" <;> simp [l0, l5, h]
  have s5 : disow [7, 8] (sApp 2 (c2 addD (cSl (cVarB 5) none (some (cK (.int 4)))) (cTup [cVar 7, cVar 8]))) [.dat c.d false, .dat (.list (P ++ plD i x)) true, .dat (.list S) true, .dat (.list F) true, .dat (natD i) false, .dat x.d false, y, .dat (if x.kd = "ban" then .none else nO x.dn) false, .dat (if x.kd = "must" then .none else nO x.lp) false, .no] = .nx [.dat c.d false, .dat (.list (P ++ plD i x)) true, .dat (.list (S ++ [x.strict.d])) true, .dat (.list F) true, .dat (natD i) false, .dat x.d false, y, .dat (if x.kd = "ban" then .none else nO x.dn) false, .dat (if x.kd = "must" then .none else nO x.lp) false, .no] := by
    rw [strict_d]
    generalize (if x.kd = "ban" then PyData.none else nO x.dn) = A
    generalize (if x.kd = "must" then PyData.none else nO x.lp) = B
    simp [Cl.d, slD, cut4, add42, n1]
  have cut46 : ∀ a b c d e f : PyData, cutD [a, b, c, d, e, f] (some 4) none = [e, f] := fun a b c d e f => cutD_from _ 4
  have s6 : ∀ A B : PyData, disow [9] (sApp 3 (c2 addD (cSl (cVarB 5) none (some (cK (.int 4)))) (c1 tupleD (cComp (cItE (cSl (cVarB 5) (some (cK (.int 4))) none)) [9] (.one 9) (tYesC) (c54_0 Φ))))) [.dat c.d false, .dat (.list (P ++ plD i x)) true, .dat (.list (S ++ [x.strict.d])) true, .dat (.list F) true, .dat (natD i) false, .dat x.d false, y, .dat A false, .dat B false, .no] = .nx [.dat c.d false, .dat (.list (P ++ plD i x)) true, .dat (.list (S ++ [x.strict.d])) true, .dat (.list (F ++ [x.forgive.d])) true, .dat (natD i) false, .dat x.d false, y, .dat A false, .dat B false, .no] := by
    intro A B
    cases e1 : x.dn <;> cases e2 : x.lp <;> simp [Cl.d, slD, cut4, cut46, add42, n2, e1, e2, Cl.forgive, nO, nT, compL, tgSet, tYesC, c54_0, isNoneD]
  unfold b54_1
  rw [seq_nx s1, seq_nx s2, seq_nx s3, seq_nx s4, seq_nx s5, seq_nx (s6 _ _)]
  rfl
end Pv.K42


namespace Pv.K42
open PySem PySem.Spec L2
open PyProof.Rows hiding St

theorem getD_take {α : Type} {cs : List Cl} {n : Nat} {x : Cl} (f : Cl → α) (hx : cs[n]? = some x) : (cs.take (n + 1)).map f = (cs.take n).map f ++ [f x] := by
  obtain ⟨h, e⟩ := List.getElem?_eq_some_iff.mp hx
  rw [List.take_succ_eq_append_getElem h, List.map_append, e]
  rfl
theorem u54_loop (Φ : Ph) (c : Ct) (hfew : c.cs.length ≤ 16) : ∃ w5 w6 w7 w8 y, forL (.one 4) (b54_1 Φ) ((List.range c.cs.length).map natD) [.dat c.d false, .dat (.list []) true, .dat (.list []) true, .dat (.list []) true, .no, .no, .no, .no, .no, .no] = .nx [.dat c.d false, .dat (.list (plsD c.cs c.cs.length)) true, .dat (.list (c.cs.map fun x => x.strict.d)) true, .dat (.list (c.cs.map fun x => x.forgive.d)) true, y, w5, w6, w7, w8, .no] := by
  obtain ⟨ρ', h1, y, w5, w6, w7, w8, rfl⟩ := forL_inv natD (fun done ρ => ∃ y w5 w6 w7 w8, ρ = [.dat c.d false, .dat (.list (plsD c.cs done.length)) true, .dat (.list ((c.cs.take done.length).map fun x => x.strict.d)) true, .dat (.list ((c.cs.take done.length).map fun x => x.forgive.d)) true, y, w5, w6, w7, w8, .no]) (i := 4) (b := b54_1 Φ) (List.range c.cs.length) (by
    rintro done a rest ρ e ⟨y, w5, w6, w7, w8, rfl⟩
    obtain ⟨hj, rfl⟩ := range_at e
    have hx : c.cs[done.length]? = some c.cs[done.length] := List.getElem?_eq_getElem hj
    have hl := plsD_len c.cs done.length
    obtain ⟨z, hb⟩ := u54_body Φ c done.length _ hx (plsD c.cs done.length) ((c.cs.take done.length).map fun x => x.strict.d) ((c.cs.take done.length).map fun x => x.forgive.d) w5 w6 w7 w8 .no (by omega) (by simp; omega) (by simp; omega)
    have hl1 : (done ++ [done.length]).length = done.length + 1 := List.length_append
    have p1 := plsD_succ hx
    have p2 := getD_take (fun x : Cl => x.strict.d) hx
    have p3 := getD_take (fun x : Cl => x.forgive.d) hx
    rw [← p1, ← p2, ← p3, ← hl1] at hb
    exact ⟨_, .inl hb, _, _, _, _, _, rfl⟩) (ρ := [.dat c.d false, .dat (.list []) true, .dat (.list []) true, .dat (.list []) true, .no, .no, .no, .no, .no, .no]) ⟨.no, .no, .no, .no, .no, by simp [plsD]⟩
  rw [List.length_range, List.take_length] at h1
  exact ⟨w5, w6, w7, w8, y, h1⟩
theorem u54 (Φ : Ph) (c : Ct) (hfew : c.cs.length ≤ 16) (r1 r2 r3 : PyData) (h25 : Φ 25 [c.d] = .ok r1) (h29 : Φ 29 [c.d] = .ok r2) (h31 : Φ 31 [c.d] = .ok r3)
    (q1 : Φ 36 [r1, .list (plsD c.cs c.cs.length)] = .ok (.bool true)) (q2 : Φ 36 [r2, .tuple [.tuple (c.cs.map fun x => x.strict.d), nT c.op]] = .ok (.bool true)) (q3 : Φ 36 [r3, .tuple [.tuple (c.cs.map fun x => x.forgive.d), nT c.op]] = .ok (.bool true)) :
    runC (t54 Φ) ["contract", "places", "strict", "forgiving", "number", "clause", "ending", "done", "lapsed", "numbers"] ["contract"] [c.d] = .ok (.bool true) := by
  obtain ⟨w5, w6, w7, w8, y, h1⟩ := u54_loop Φ c hfew
  have a3 : ixD c.d (.int 0) = .ok (.tuple (c.cs.map Cl.d)) := ixT_0 ..
  have a4 : ixD c.d (.int 1) = .ok (nT c.op) := ixT_1 ..
  have hr := cRange1_nat (n := c.cs.length) (a := c1 lenD (c2 ixD (cVarB 0) (cK (.int 0)))) (ρ := [.dat c.d false, .dat (.list []) true, .dat (.list []) true, .dat (.list []) true, .no, .no, .no, .no, .no, .no]) (by simp [a3]) (by omega)
  generalize plsD c.cs c.cs.length = A at *
  generalize (c.cs.map fun x => x.strict.d) = B at *
  generalize (c.cs.map fun x => x.forgive.d) = C at *
  have s1 : disow [] (sSet 1 true (cLst [])) [.dat c.d false, .no, .no, .no, .no, .no, .no, .no, .no, .no] = .nx [.dat c.d false, .dat (.list []) true, .no, .no, .no, .no, .no, .no, .no, .no] := by simp
  have s2 : disow [] (sSet 2 true (cLst [])) [.dat c.d false, .dat (.list []) true, .no, .no, .no, .no, .no, .no, .no, .no] = .nx [.dat c.d false, .dat (.list []) true, .dat (.list []) true, .no, .no, .no, .no, .no, .no, .no] := by simp
  have s3 : disow [] (sSet 3 true (cLst [])) [.dat c.d false, .dat (.list []) true, .dat (.list []) true, .no, .no, .no, .no, .no, .no, .no] = .nx [.dat c.d false, .dat (.list []) true, .dat (.list []) true, .dat (.list []) true, .no, .no, .no, .no, .no, .no] := by simp
  have s4 := for_nx0 hr h1
  have hS : ∃ ρ, ρ = ([.dat c.d false, .dat (.list A) true, .dat (.list B) true, .dat (.list C) true, y, w5, w6, w7, w8, .no] : En) := ⟨_, rfl⟩
  rw [run_of (ρ := [.dat c.d false, .no, .no, .no, .no, .no, .no, .no, .no, .no]) rfl rfl]
  unfold t54
  rw [seq_nx s1, seq_nx s2, seq_nx s3, seq_nx s4]
  simp [h25, h29, h31, q1, q2, q3, a4]
end Pv.K42


namespace Pv.K42
open PySem PySem.Spec L2
open PyProof.Rows hiding St

theorem plain_plD (n i : Nat) (x : Cl) : ∀ d ∈ plD i x, plainD (n + 2) d = true := by
  intro d hd
  unfold plD at hd
  rcases List.mem_append.mp hd with h | h
  · split at h
    · rw [List.mem_singleton.mp h]; rfl
    · exact absurd h (by simp)
  · split at h
    · rw [List.mem_singleton.mp h]; rfl
    · exact absurd h (by simp)
theorem plain_plsD (n : Nat) (cs : List Cl) : ∀ m, ∀ d ∈ plsD cs m, plainD (n + 2) d = true
  | 0, d, hd => absurd hd (by simp [plsD])
  | m + 1, d, hd => by
    unfold plsD at hd
    rcases List.mem_append.mp hd with h | h
    · exact plain_plsD n cs m d h
    · cases e : cs[m]? with
      | none => rw [e] at h; exact absurd h (by simp)
      | some x => rw [e] at h; exact plain_plD n m x d h
theorem v54 (k : Nat) {c : Ct} (hc : c.Ok) : Ev (k + 9) 54 [c.d] = .ok (.bool true) := by
  have hop : c.op.length ≤ 1000 := Nat.le_trans (asc_len hc.op) (Nat.le_trans hc.few (by decide))
  have hf := hc.few
  have a25 : Ev (k + 8) 25 [c.d] = .ok (.list (plsD c.cs c.cs.length)) := v25 (k + 5) hc
  have a29 := v29 k hc
  have a31 : Ev (k + 8) 31 [c.d] = _ := v31 (k + 4) c
  refine (e54 (k + 8) _).trans (u54 (Ev (k + 8)) c hc.few _ _ _ a25 a29 a31 (v36 8 k _ ?_) (v36 8 k _ ?_) (v36 8 k _ ?_))
  · have hl := plsD_len c.cs c.cs.length
    have h2 : (plsD c.cs c.cs.length).all (plainD 7) = true := List.all_eq_true.mpr (plain_plsD 5 c.cs _)
    show (decide ((plsD c.cs c.cs.length).length ≤ 1000) && (plsD c.cs c.cs.length).all (plainD 7)) = true
    rw [h2, decide_eq_true (by omega)]
    rfl
  · refine plain_cls 3 hop (by simp; omega) ?_
    intro d hd
    obtain ⟨x, hx, rfl⟩ := List.mem_map.mp hd
    exact plain_cl 3 (hc.cl x hx).1.strict.few
  · refine plain_cls 3 hop (by simp; omega) ?_
    intro d hd
    obtain ⟨x, hx, rfl⟩ := List.mem_map.mp hd
    have hfw := (hc.cl x hx).1.few
    refine plain_cl 3 ⟨?_, ?_⟩
    · intro l e
      cases e
      cases h : x.dn with
      | none => simp
      | some l => exact hfw.1 l h
    · intro l e
      cases e
      cases h : x.lp with
      | none => simp
      | some l => exact hfw.2 l h
end Pv.K42


namespace Pv.K42
open PySem PySem.Spec L2
open PyProof.Rows hiding St

/-! ### names -/
def alph : Str := "abcdefghijklmnopqrstuvwxyz"
theorem alph_cps : alph.cps.toList = (List.range 26).map (· + 97) := by decide +kernel
theorem atI_mem {α : Type} {ds : List α} {i : Nat} (h : i < ds.length) : atI ds (i : Int) = some ds[i] := atI_nat (List.getElem?_eq_getElem h)
def Let (c : Nat) : Prop := 97 ≤ c ∧ c < 123
theorem alph_ix (i : Int) (h : 0 ≤ i ∧ i < 26) : ∃ c, Let c ∧ ixD (.str alph) (.int i) = .ok (.str ⟨#[c]⟩) := by
  obtain ⟨n, rfl⟩ := Int.eq_ofNat_of_zero_le h.1
  have hn : n < 26 := by omega
  refine ⟨n + 97, ⟨by omega, by omega⟩, ?_⟩
  have e : atI alph.cps.toList (n : Int) = some (n + 97) := by
    rw [alph_cps]
    exact atI_nat (by simp [hn])
  show (if alph.length ≤ sizeLine then (match atI alph.cps.toList (n : Int) with | some c => R.ok (PyData.str ⟨#[c]⟩) | none => .bad) else .bad) = _
  rw [e]
  exact if_pos (by decide +kernel)
/-- letters, 1 to 8 -/
def Nm (p : Str) : Prop := 1 ≤ p.cps.toList.length ∧ p.cps.toList.length ≤ 8 ∧ ∀ c ∈ p.cps.toList, Let c
theorem inB_let {c : Nat} (h : Let c) : notInD (.str ⟨#[c]⟩) (.str alph) = .ok (.bool false) := by
  show (inB (.str ⟨#[c]⟩) (.str alph)).bind _ = _
  have e : inB (.str ⟨#[c]⟩) (.str alph) = .ok true := by
    show R.ok (decide (c ∈ alph.cps.toList)) = _
    rw [alph_cps, decide_eq_true]
    unfold Let at h
    simp
    exact ⟨c - 97, by omega, by omega⟩
  rw [e]
  rfl
theorem u1_body (Φ : Ph) (d : Sl) (c : Nat) (h : Let c) : b1_0 Φ [d, .dat (.str ⟨#[c]⟩) false] = .nx [d, .dat (.str ⟨#[c]⟩) false] := by
  have e := inB_let h
  rw [alph] at e
  simp [b1_0, e]
theorem nm_ok {p : Str} (h : Nm p) : NmOk p := by
  intro k
  rw [e1]
  obtain ⟨h1, h2, h3⟩ := h
  have hl : p.length = p.cps.toList.length := rfl
  obtain ⟨y, hf⟩ := forL_same (fun c : Nat => PyData.str ⟨#[c]⟩) (fun y => [.dat (.str p) false, y]) (i := 1) (b := b1_0 (Ev k)) p.cps.toList (fun x y => rfl) (fun c hc => u1_body _ _ c (h3 c hc)) .no
  have hz : p.length ≤ sizeLine := by
    have : sizeLine = 16777216 := rfl
    omega
  have e1 : lenD (.str p) = .ok (.int p.length) := if_pos hz
  have e2 : itD (.str p) = .ok (p.cps.toList.map fun c => .str ⟨#[c]⟩) := if_pos (by omega)
  have g1 : (1 : Int) ≤ (p.length : Int) := by omega
  have g2 : (p.length : Int) ≤ 8 := by omega
  simp [t1, e1, e2, hf, g1, g2, -lenD_str]
theorem nm_const (p : Str) (h : (decide (1 ≤ p.cps.toList.length) && (decide (p.cps.toList.length ≤ 8) && p.cps.toList.all fun c => decide (97 ≤ c) && decide (c < 123))) = true) : Nm p := by
  simp only [Bool.and_eq_true, decide_eq_true_iff, List.all_eq_true] at h
  exact ⟨h.1, h.2.1, h.2.2⟩
theorem str_add (c : Nat) (p : Str) (h : p.length ≤ 8) : addD (.str ⟨#[c]⟩) (.str p) = .ok (.str (⟨#[c]⟩ ++ p)) := if_pos (by
  have : sizeLine = 16777216 := rfl
  show 1 + p.length ≤ sizeLine
  omega)
theorem u37_body (Φ : Ph) (d w : Sl) (rest : Int) (p : Str) (n : Nat) (hp : p.cps.toList.length ≤ n) (hn : n ≤ 7) (hc : ∀ c ∈ p.cps.toList, Let c) : ∃ (rest' : Int) (p' : Str), b37_0 Φ [d, .dat (.int rest) false, .dat (.str p) false, w] = .nx [d, .dat (.int rest') false, .dat (.str p') false, w] ∧ p'.cps.toList.length ≤ n + 1 ∧ p.cps.toList.length ≤ p'.cps.toList.length ∧ (0 ≤ rest → 1 ≤ p'.cps.toList.length) ∧ ∀ c ∈ p'.cps.toList, Let c := by
  by_cases h : 0 ≤ rest
  · obtain ⟨c, hc1, hc2⟩ := alph_ix (rest % 26) ⟨by omega, by omega⟩
    have hm : modD (.int rest) (.int 26) = .ok (.int (rest % 26)) := modD_int _ (by decide)
    have hd : fdivD (.int rest) (.int 26) = .ok (.int (rest / 26)) := fdivD_int _ (by decide) (by decide)
    have ha := str_add c p (by show p.cps.size ≤ 8; have : p.cps.toList.length = p.cps.size := rfl; omega)
    have hcp : (⟨#[c]⟩ ++ p : Str).cps.toList = c :: p.cps.toList := by
      show (#[c] ++ p.cps).toList = _
      simp
    rw [alph] at hc2
    refine ⟨rest / 26 - 1, ⟨#[c]⟩ ++ p, by simp [b37_0, h, hm, hc2, ha, hd], ?_⟩
    rw [hcp]
    refine ⟨by simp; omega, by simp, fun _ => by simp, ?_⟩
    intro x hx
    rcases List.mem_cons.mp hx with rfl | hx
    · exact hc1
    · exact hc x hx
  · refine ⟨rest, p, by simp [b37_0, h], by omega, by omega, fun h' => absurd h' h, hc⟩
theorem u37 (Φ : Ph) (n : Int) (h : 0 ≤ n) : ∃ p, Nm p ∧ runC (t37 Φ) ["number", "rest", "name", "k"] ["number"] [.int n] = .ok (.str p) := by
  have hr := cRange1_nat (n := 8) (a := cK (.int 8)) (ρ := [.dat (.int n) false, .dat (.int n) false, .dat (.str "") false, .no]) rfl (by decide)
  have he : ((""  : Str)).cps.toList = [] := by decide +kernel
  obtain ⟨ρ', h1, rest, p, y, rfl, i1, i2, i3⟩ := forL_inv natD (fun done ρ => ∃ (rest : Int) (p : Str) (y : Sl), ρ = [.dat (.int n) false, .dat (.int rest) false, .dat (.str p) false, y] ∧ p.cps.toList.length ≤ done.length ∧ (∀ c ∈ p.cps.toList, Let c) ∧ ((done = [] ∧ rest = n) ∨ 1 ≤ p.cps.toList.length)) (i := 3) (b := b37_0 Φ) (List.range 8) (by
    rintro done a rest ρ e ⟨r, p, y, rfl, j1, j2, j3⟩
    obtain ⟨hj, rfl⟩ := range_at e
    obtain ⟨r', p', g1, g2, g3, g4, g5⟩ := u37_body Φ (.dat (.int n) false) (.dat (natD done.length) false) r p done.length j1 (by omega) j2
    refine ⟨_, .inl g1, r', p', _, rfl, by simpa using g2, g5, .inr ?_⟩
    rcases j3 with ⟨_, rfl⟩ | j3
    · exact g4 h
    · omega) (ρ := [.dat (.int n) false, .dat (.int n) false, .dat (.str "") false, .no]) ⟨n, "", .no, rfl, by rw [he]; simp, by rw [he]; simp, .inl ⟨rfl, rfl⟩⟩
  refine ⟨p, ⟨?_, by simpa using i1, i2⟩, ?_⟩
  · rcases i3 with ⟨i3, _⟩ | i3
    · exact absurd i3 (by decide)
    · exact i3
  · generalize hR : (List.range 8).map natD = L at hr h1
    simp [-cRange1_ap, t37, hr, h1]
theorem v37 (k : Nat) (n : Int) (h : 0 ≤ n) : ∃ p, Nm p ∧ Ev (k + 1) 37 [.int n] = .ok (.str p) := by
  obtain ⟨p, h1, h2⟩ := u37 (Ev k) n h
  exact ⟨p, h1, (e37 k _).trans h2⟩
end Pv.K42


namespace Pv.K42
open PySem PySem.Spec L2
open PyProof.Rows hiding St

/-! ### cells, draws -/
theorem u34_body (Φ : Ph) (a b : Sl) (m c : Int) : ∃ m' : Int, b34_0 Φ [a, b, .dat (.int m) false, .dat (.int c) false] = .nx [a, b, .dat (.int m') false, .dat (.int c) false] := by
  have h1 := mulI_intr m 48271 (by decide)
  have h1' := mulD_intr m 48271 (by decide)
  have h2 := modD_int (m * 48271 + c) (j := 2147483647) (by decide)
  exact ⟨_, by simp [b34_0, h1, h1', h2]; rfl⟩
theorem u34 (Φ : Ph) (ns : List Int) (hl : ns.length ≤ 63) (k : Int) (hk : 0 ≤ k) : ∃ n : Int, runC (t34 Φ) ["script", "k", "mixed", "cell"] ["script", "k"] [.list (ns.map .int), .int k] = .ok (.int n) := by
  by_cases h : k < ns.length
  · obtain ⟨i, rfl⟩ := Int.eq_ofNat_of_zero_le hk
    have hi : ixD (.list (ns.map .int)) (.int i) = .ok (.int (ns[i]'(by omega))) := ixL_nat (by simp)
    exact ⟨ns[i]'(by omega), by simp [t34, h, hi]⟩
  · obtain ⟨ρ', h1, m, y, rfl⟩ := forL_inv PyData.int (fun done ρ => ∃ (m : Int) (y : Sl), ρ = [.dat (.list (ns.map .int)) false, .dat (.int k) false, .dat (.int m) false, y]) (i := 3) (b := b34_0 Φ) ns (by
      rintro done a rest ρ e ⟨m, y, rfl⟩
      obtain ⟨m', g⟩ := u34_body Φ (.dat (.list (ns.map .int)) false) (.dat (.int k) false) m a
      exact ⟨_, .inl g, m', _, rfl⟩) (ρ := [.dat (.list (ns.map .int)) false, .dat (.int k) false, .dat (.int (7 * k + 11)) false, .no]) ⟨_, _, rfl⟩
    have hm := mulI_intl 7 k (by decide)
    exact ⟨m, by simp [t34, h, hm, h1]⟩
/-- drawn numbers below their limits -/
def Dr : List Int → List Int → Prop
  | [], [] => True
  | x :: xs, l :: ls => (0 ≤ x ∧ x < l) ∧ Dr xs ls
  | _, _ => False
theorem Dr.app : ∀ {xs ls : List Int} {x l : Int}, Dr xs ls → 0 ≤ x → x < l → Dr (xs ++ [x]) (ls ++ [l])
  | [], [], x, l, _, h1, h2 => ⟨⟨h1, h2⟩, trivial⟩
  | _ :: _, _ :: _, x, l, h, h1, h2 => ⟨h.1, Dr.app h.2 h1 h2⟩
  | [], _ :: _, _, _, h, _, _ => h.elim
  | _ :: _, [], _, _, h, _, _ => h.elim
theorem Dr.len : ∀ {xs ls : List Int}, Dr xs ls → xs.length = ls.length
  | [], [], _ => rfl
  | _ :: _, _ :: _, h => by simp [Dr.len h.2]
  | [], _ :: _, h => h.elim
  | _ :: _, [], h => h.elim
theorem u35_body (Φ : Ph) (cell rest l : Int) (lims : PyData) (xs : List Int) (k : Nat) (w : Sl) (hx : xs.length < 1000) (hk : k ≤ 1000) (h0 : 0 < l) (h1 : l.natAbs.log2 < 9000) (hi : ixD lims (.int k) = .ok (.int l)) :
    ∃ (x rest' : Int) (w' : Sl), b35_0 Φ [.dat (.int cell) false, .dat lims false, .dat (.list (xs.map .int)) true, .dat (.int rest) false, .dat (natD k) false, w] = .nx [.dat (.int cell) false, .dat lims false, .dat (.list ((xs ++ [x]).map .int)) true, .dat (.int rest') false, .dat (natD k) false, w'] ∧ 0 ≤ x ∧ x < l := by
  have m1 := mulI_intr cell 48271 (by decide)
  have m1' := mulD_intr cell 48271 (by decide)
  have m2 := mulI_intr k 69621 (by decide)
  have m2' := mulD_intr k 69621 (by decide)
  have m3 : ∀ a, mulD (.int a) (.int 16807) = .ok (.int (a * 16807)) := fun a => mulD_intr _ _ (by decide)
  have m4 := mulI_intl k k (by omega)
  have m4' := mulD_intl k k (by omega)
  have d1 : ∀ a, modD (.int a) (.int 2147483647) = .ok (.int (a % 2147483647)) := fun a => modD_int _ (by decide)
  have d2 : ∀ a, modD (.int a) (.int 998244353) = .ok (.int (a % 998244353)) := fun a => modD_int _ (by decide)
  have d3 : ∀ a, modD (.int a) (.int l) = .ok (.int (a % l)) := fun a => modD_int _ h0
  have f1 := fdivD_int rest h0 h1
  have hp : powD (.int 10) (.int 18) = .ok (.int 1000000000000000000) := by rfl
  have n1 : xs.length < 16000000 := by omega
  by_cases hc : cell < 1000000000000000000
  · refine ⟨_, rest, _, by simp [b35_0, natD, hp, hc, m1, m1', m2, m2', m3, m4, m4', d1, d2, d3, hi, n1]; exact ⟨rfl, rfl⟩, Int.emod_nonneg _ (by omega), Int.emod_lt_of_pos _ h0⟩
  · refine ⟨_, rest / l, _, by simp [b35_0, natD, hp, hc, f1, d3, hi, n1]; exact ⟨rfl, rfl⟩, Int.emod_nonneg _ (by omega), Int.emod_lt_of_pos _ h0⟩
theorem u35 (Φ : Ph) (cell : Int) (ls : List Int) (hl : ls.length ≤ 900) (hp : ∀ l ∈ ls, 0 < l ∧ l.natAbs.log2 < 9000) : ∃ xs, Dr xs ls ∧ runC (t35 Φ) ["cell", "limits", "found", "rest", "k", "part"] ["cell", "limits"] [.int cell, .list (ls.map .int)] = .ok (.list (xs.map .int)) := by
  have hr := cRange1_nat (n := ls.length) (a := c1 lenD (cVarB 1)) (ρ := [.dat (.int cell) false, .dat (.list (ls.map .int)) false, .dat (.list []) true, .dat (.int cell) false, .no, .no]) (by simp) (by omega)
  obtain ⟨ρ', h1, xs, rest, y, w, rfl, hd⟩ := forL_inv natD (fun done ρ => ∃ (xs : List Int) (rest : Int) (y w : Sl), ρ = [.dat (.int cell) false, .dat (.list (ls.map .int)) false, .dat (.list (xs.map .int)) true, .dat (.int rest) false, y, w] ∧ Dr xs (ls.take done.length)) (i := 4) (b := b35_0 Φ) (List.range ls.length) (by
    rintro done a rest ρ e ⟨xs, r, y, w, rfl, hd⟩
    obtain ⟨hj, rfl⟩ := range_at e
    obtain ⟨p0, p1⟩ := hp _ (List.getElem_mem hj)
    have hi : ixD (.list (ls.map .int)) (.int done.length) = .ok (.int ls[done.length]) := ixL_nat (by simp [hj])
    have hlen := hd.len
    rw [List.length_take] at hlen
    obtain ⟨x, r', w', g1, g2, g3⟩ := u35_body Φ cell r _ (.list (ls.map .int)) xs done.length w (by omega) (by omega) p0 p1 hi
    refine ⟨_, .inl g1, _, _, _, _, rfl, ?_⟩
    rw [List.length_append]
    show Dr _ (ls.take (done.length + 1))
    rw [List.take_succ_eq_append_getElem hj]
    exact hd.app g2 g3) (ρ := [.dat (.int cell) false, .dat (.list (ls.map .int)) false, .dat (.list []) true, .dat (.int cell) false, .no, .no]) ⟨[], cell, .no, .no, rfl, trivial⟩
  rw [List.length_range, List.take_length] at hd
  refine ⟨xs, hd, ?_⟩
  generalize hR : (List.range ls.length).map natD = L at hr h1
  simp [-cRange1_ap, t35, hr, h1]
theorem v34 (k : Nat) (ns : List Int) (hl : ns.length ≤ 63) (j : Int) (hj : 0 ≤ j) : ∃ n : Int, Ev (k + 1) 34 [.list (ns.map .int), .int j] = .ok (.int n) := by
  obtain ⟨n, h⟩ := u34 (Ev k) ns hl j hj
  exact ⟨n, (e34 k _).trans h⟩
theorem v35 (k : Nat) (cell : Int) (ls : List Int) (hl : ls.length ≤ 900) (hp : ∀ l ∈ ls, 0 < l ∧ l.natAbs.log2 < 9000) : ∃ xs, Dr xs ls ∧ Ev (k + 1) 35 [.int cell, .list (ls.map .int)] = .ok (.list (xs.map .int)) := by
  obtain ⟨xs, h1, h2⟩ := u35 (Ev k) cell ls hl hp
  exact ⟨xs, h1, (e35 k _).trans h2⟩
/-- names for parties and actions -/
structure Pl where
  ps : List Str
  as : List Str
def Pl.d (p : Pl) : PyData := .list [.list (p.ps.map .str), .list (p.as.map .str)]
structure Pl.Ok (p : Pl) : Prop where
  lp : 3 ≤ p.ps.length
  la : 4 ≤ p.as.length
  ps : ∀ x ∈ p.ps, Nm x
  as : ∀ x ∈ p.as, Nm x
theorem u38 (Φ : Ph) (cell : Int) (xs : List Int) (hd : Dr xs [2, 217180147158, 217180147158, 217180147158, 217180147158, 217180147158, 217180147158, 217180147158]) (h35 : Φ 35 [.int cell, .list (List.map .int [2, 217180147158, 217180147158, 217180147158, 217180147158, 217180147158, 217180147158, 217180147158])] = .ok (.list (xs.map .int))) (h37 : ∀ n : Int, 0 ≤ n → ∃ p, Nm p ∧ Φ 37 [.int n] = .ok (.str p)) : ∃ p : Pl, p.Ok ∧ runC (t38 Φ) ["cell", "draws", "names", "number"] ["cell"] [.int cell] = .ok p.d := by
  match xs, hd with
  | [x0, x1, x2, x3, x4, x5, x6, x7], hd =>
    obtain ⟨d0, d1, d2, d3, d4, d5, d6, d7, _⟩ := hd
    have hm : mulD (.list [.int 217180147158]) (.int 7) = .ok (.list (List.replicate 7 (.int 217180147158))) := mul_rep _ 7 (by decide)
    have ha : addD (.list [.int 2]) (.list (List.replicate 7 (.int 217180147158))) = .ok (.list (List.map .int [2, 217180147158, 217180147158, 217180147158, 217180147158, 217180147158, 217180147158, 217180147158])) := addL _ _ (by decide)
    have s1 : c2 addD (cLst [cK (.int 2)]) (c2 mulD (cLst [cK (.int 217180147158)]) (cK (.int 7))) [.dat (.int cell) false, .no, .no, .no] = .ok (.list (List.map .int [2, 217180147158, 217180147158, 217180147158, 217180147158, 217180147158, 217180147158, 217180147158])) := by
      have q1 : cLst [cK (.int 2)] [.dat (.int cell) false, .no, .no, .no] = .ok (.list [.int 2]) := by simp
      have q2 : c2 mulD (cLst [cK (.int 217180147158)]) (cK (.int 7)) [.dat (.int cell) false, .no, .no, .no] = .ok (.list (List.replicate 7 (.int 217180147158))) := by
        rw [c2_ap]
        simp only [cLst_ap, cAll_cons, cAll_nil, cK_ap, R.bind_ok, List.length_cons, List.length_nil]
        rw [if_pos (by decide), R.bind_ok, hm]
        rfl
      rw [c2_ap, q1, R.bind_ok, q2, R.bind_ok, ha]
      rfl
    have s2 : disow [] (sSet 1 false (cCall Φ 35 [cVarB 0, c2 addD (cLst [cK (.int 2)]) (c2 mulD (cLst [cK (.int 217180147158)]) (cK (.int 7)))] [some 0, none])) [.dat (.int cell) false, .no, .no, .no] = .nx [.dat (.int cell) false, .dat (.list (List.map .int [x0, x1, x2, x3, x4, x5, x6, x7])) false, .no, .no] := by
      rw [disow_ap, disL_nil]
      refine (set_ok (d := .list (List.map .int [x0, x1, x2, x3, x4, x5, x6, x7])) ?_).trans rfl
      rw [cCall_ap, cAll_cons, cAll_cons, cAll_nil, s1]
      simp [-List.map_cons, h35]
    by_cases h0 : x0 = 0
    · refine ⟨⟨["ann", "bob", "cid"], ["call", "pay", "ring", "sell"]⟩, ⟨by decide, by decide, ?_, ?_⟩, ?_⟩
      · intro x hx
        simp at hx
        rcases hx with rfl | rfl | rfl <;> exact nm_const _ (by decide +kernel)
      · intro x hx
        simp at hx
        rcases hx with rfl | rfl | rfl | rfl <;> exact nm_const _ (by decide +kernel)
      · rw [run_of (ρ := [.dat (.int cell) false, .no, .no, .no]) rfl rfl]
        unfold t38
        rw [seq_nx s2]
        simp [h0, Pl.d]
    · obtain ⟨p1, n1, g1⟩ := h37 x1 d1.1
      obtain ⟨p2, n2, g2⟩ := h37 x2 d2.1
      obtain ⟨p3, n3, g3⟩ := h37 x3 d3.1
      obtain ⟨p4, n4, g4⟩ := h37 x4 d4.1
      obtain ⟨p5, n5, g5⟩ := h37 x5 d5.1
      obtain ⟨p6, n6, g6⟩ := h37 x6 d6.1
      obtain ⟨p7, n7, g7⟩ := h37 x7 d7.1
      refine ⟨⟨[p1, p2, p3], [p4, p5, p6, p7]⟩, ⟨by simp, by simp, ?_, ?_⟩, ?_⟩
      · intro x hx
        simp at hx
        rcases hx with rfl | rfl | rfl <;> assumption
      · intro x hx
        simp at hx
        rcases hx with rfl | rfl | rfl | rfl <;> assumption
      · rw [run_of (ρ := [.dat (.int cell) false, .no, .no, .no]) rfl rfl]
        unfold t38
        rw [seq_nx s2]
        have k1 : cutD (List.map PyData.int [x0, x1, x2, x3, x4, x5, x6, x7]) (some 1) none = List.map PyData.int [x1, x2, x3, x4, x5, x6, x7] := cutD_from _ 1
        have k2 : ∀ a b c d e f g : PyData, cutD [a, b, c, d, e, f, g] none (some 3) = [a, b, c] := fun a b c d e f g => cutD_to _ 3
        have k3 : ∀ a b c d e f g : PyData, cutD [a, b, c, d, e, f, g] (some 3) none = [d, e, f, g] := fun a b c d e f g => cutD_from _ 3
        simp only [List.map_cons, List.map_nil] at k1
        simp [h0, k1, k2, k3, compL, c38_0, tYesC, g1, g2, g3, g4, g5, g6, g7, Pl.d]
theorem v38 (k : Nat) (cell : Int) : ∃ p : Pl, p.Ok ∧ Ev (k + 2) 38 [.int cell] = .ok p.d := by
  obtain ⟨xs, h1, h2⟩ := v35 k cell [2, 217180147158, 217180147158, 217180147158, 217180147158, 217180147158, 217180147158, 217180147158] (by decide) (by
    intro l hl
    simp at hl
    rcases hl with rfl | rfl <;> exact ⟨by decide, by decide⟩)
  obtain ⟨p, h3, h4⟩ := u38 (Ev (k + 1)) cell xs h1 h2 (fun n hn => v37 k n hn)
  exact ⟨p, h3, (e38 (k + 1) _).trans h4⟩
end Pv.K42


namespace Pv.K42
open PySem PySem.Spec L2
open PyProof.Rows hiding St

/-! ### drawn contracts -/
theorem compL_ex {α β : Type} (m : α → PyData) (enc : β → PyData) (Q : β → Prop) {i : Nat} {e : CE} {ρ : En} {l : List α} (h : ∀ a ∈ l, ∃ b, Q b ∧ e (ρ.set i (.dat (m a) false)) = .ok (enc b)) : ∃ bs : List β, compL (.one i) tYesC e ρ (l.map m) = .ok (bs.map enc) ∧ bs.length = l.length ∧ ∀ b ∈ bs, Q b := by
  induction l with
  | nil => exact ⟨[], rfl, rfl, by simp⟩
  | cons a l ih =>
    obtain ⟨bs, h1, h2, h3⟩ := ih fun b hb => h b (List.mem_cons_of_mem _ hb)
    obtain ⟨b, q, g⟩ := h a List.mem_cons_self
    refine ⟨b :: bs, ?_, by simp [h2], ?_⟩
    · show ((tgSet (.one i) (m a) ρ).bind fun ρ' => (tYesC ρ').bind fun b => if b = true then (e ρ').bind fun y => (compL (.one i) tYesC e ρ (l.map m)).bind fun ys => .ok (y :: ys) else compL (.one i) tYesC e ρ (l.map m)) = _
      rw [tgSet_one, R.bind_ok]
      show ((R.ok true).bind fun b => _) = _
      rw [R.bind_ok, if_pos rfl, g, R.bind_ok, h1, R.bind_ok]
      rfl
    · intro x hx
      rcases List.mem_cons.mp hx with rfl | hx
      · exact q
      · exact h3 x hx
def pws : List Int := [1, 2, 4, 8, 16, 32, 64, 128, 256, 512, 1024, 2048, 4096, 8192, 16384, 32768]
theorem pws_ok : ∀ x ∈ pws, 0 < x ∧ x.natAbs.log2 < 9000 := by decide +kernel
def bitN (mask n : Int) : Bool := decide (mask / (pws.getD n.toNat 1) % 2 = 1)
theorem q39 (Φ : Ph) (mask : Int) (n : Nat) (hn : n < 16) (a b : Sl) : q39_0 Φ [.dat (.int mask) false, a, b, .dat (.list (pws.map .int)) true, .dat (.int n) false] = .ok (bitN mask n) := by
  have hl : n < pws.length := hn
  obtain ⟨h0, h1⟩ := pws_ok _ (List.getElem_mem hl)
  have hi : ixD (.list (pws.map .int)) (.int n) = .ok (.int pws[n]) := ixL_nat (by simp [hl])
  have f1 := fdivD_int mask h0 h1
  have d1 := modD_int (mask / pws[n]) (j := 2) (by decide)
  have e : bitN mask n = decide (mask / pws[n] % 2 = 1) := by
    unfold bitN
    simp [hl]
  rw [e]
  simp [q39_0, hi, f1, d1]
theorem u39 (Φ : Ph) (mask : Int) (count most : Nat) (hc : count ≤ 16) : ∃ l, Asc count l ∧ runC (t39 Φ) ["mask", "count", "most", "powers", "k"] ["mask", "count", "most"] [.int mask, .int count, .int most] = .ok (nT l) := by
  have hr := cRange1_nat (n := count) (a := cVarB 1) (ρ := [.dat (.int mask) false, .dat (.int count) false, .dat (.int most) false, .dat (.list (pws.map .int)) true, .no]) (by simp) (by omega)
  rw [natD_upTo] at hr
  have hq := compL_on PyData.int (bitN mask) PyData.int (i := 4) (t := q39_0 Φ) (e := c39_0 Φ) (ρ := [.dat (.int mask) false, .dat (.int count) false, .dat (.int most) false, .dat (.list (pws.map .int)) true, .no]) (l := upTo count) (by
    intro n hn
    have := (asc_upTo count).2 n hn
    obtain ⟨j, rfl⟩ := Int.eq_ofNat_of_zero_le this.1
    exact ⟨q39 Φ mask j (by omega) _ _, fun _ => by simp [c39_0]⟩)
  have ha := asc_upTo count
  refine ⟨((upTo count).filter (bitN mask)).take most, ⟨(ha.1.filter _).sublist (List.take_sublist _ _), fun m hm => ha.2 m (List.mem_filter.mp (List.mem_of_mem_take hm)).1⟩, ?_⟩
  have s1 : disow [] (sSet 3 true (cLst [cK (.int 1), cK (.int 2), cK (.int 4), cK (.int 8), cK (.int 16), cK (.int 32), cK (.int 64), cK (.int 128), cK (.int 256), cK (.int 512), cK (.int 1024), cK (.int 2048), cK (.int 4096), cK (.int 8192), cK (.int 16384), cK (.int 32768)])) [.dat (.int mask) false, .dat (.int count) false, .dat (.int most) false, .no, .no] = .nx [.dat (.int mask) false, .dat (.int count) false, .dat (.int most) false, .dat (.list (pws.map .int)) true, .no] := by
    simp [pws]
  have hcut := cutD_to (((upTo count).filter (bitN mask)).map .int) most
  rw [← List.map_take] at hcut
  rw [run_of (ρ := [.dat (.int mask) false, .dat (.int count) false, .dat (.int most) false, .no, .no]) rfl rfl]
  unfold t39
  rw [seq_nx s1]
  generalize hR : (upTo count).map PyData.int = L at hr hq
  generalize hP : PyData.list (pws.map .int) = PW at hr hq
  have hPl : isL PW = true := by rw [← hP]; rfl
  simp [-cRange1_ap, hr, hq, hcut, nT]
theorem v39 (k : Nat) (mask : Int) (count most : Nat) (hc : count ≤ 16) : ∃ l, Asc count l ∧ Ev (k + 1) 39 [.int mask, .int count, .int most] = .ok (nT l) := by
  obtain ⟨l, h1, h2⟩ := u39 (Ev k) mask count most hc
  exact ⟨l, h1, (e39 k _).trans h2⟩
theorem asc_le {n m : Nat} {l : List Int} (h : Asc n l) (hn : n ≤ m) : Asc m l := ⟨h.1, fun x hx => by have := h.2 x hx; omega⟩
theorem asco_le {n m : Nat} {l : Option (List Int)} (h : AscO n l) (hn : n ≤ m) : AscO m l := by
  cases l with
  | none => trivial
  | some l => exact asc_le h hn
/-- a clause within a contract of n -/
def ClIn (n : Nat) (c : Cl) : Prop := c.Ok ∧ AscO n c.dn ∧ AscO n c.lp
theorem cl_in {n : Nat} (hn : n ≤ 16) {kd pt ac : Str} {dy : Int} {dn lp : Option (List Int)} (h1 : kd = "must" ∨ kd = "may" ∨ kd = "ban") (h2 : Nm pt) (h3 : Nm ac) (h4 : 1 ≤ dy ∧ dy ≤ 30) (h5 : AscO n dn) (h6 : AscO n lp) (h7 : dn = none → kd = "ban") (h8 : lp = none → kd = "must") : ClIn n ⟨kd, pt, ac, dy, dn, lp⟩ :=
  ⟨⟨h1, nm_ok h2, nm_ok h3, h4, asco_le h5 hn, asco_le h6 hn, h7, h8⟩, h5, h6⟩
theorem u40 (Φ : Ph) (cell : Int) (count most : Nat) (hc : count ≤ 16) (p : Pl) (hp : p.Ok) (xs : List Int) (hd : Dr xs [3, 3, 4, 30, 65536, 65536, 3]) (h35 : Φ 35 [.int cell, .list (List.map .int [3, 3, 4, 30, 65536, 65536, 3])] = .ok (.list (xs.map .int))) (h39 : ∀ mask : Int, ∃ l, Asc count l ∧ Φ 39 [.int mask, .int count, .int most] = .ok (nT l)) :
    ∃ c, ClIn count c ∧ runC (t40 Φ) ["cell", "count", "pools", "most", "draws", "kind", "done", "lapsed"] ["cell", "count", "pools", "most"] [.int cell, .int count, p.d, .int most] = .ok c.d := by
  match xs, hd with
  | [x0, x1, x2, x3, x4, x5, x6], hd =>
    obtain ⟨d0, d1, d2, d3, d4, d5, d6, _⟩ := hd
    obtain ⟨l1, a1, g1⟩ := h39 x4
    obtain ⟨l2, a2, g2⟩ := h39 x5
    obtain ⟨i, rfl⟩ := Int.eq_ofNat_of_zero_le d1.1
    obtain ⟨j, rfl⟩ := Int.eq_ofNat_of_zero_le d2.1
    have hi : i < p.ps.length := by have := hp.lp; omega
    have hj : j < p.as.length := by have := hp.la; omega
    have q1 : ixD (.list (p.ps.map .str)) (.int i) = .ok (.str p.ps[i]) := ixL_nat (by simp [hi])
    have q2 : ixD (.list (p.as.map .str)) (.int j) = .ok (.str p.as[j]) := ixL_nat (by simp [hj])
    have o1 := hp.ps _ (List.getElem_mem hi)
    have o2 := hp.as _ (List.getElem_mem hj)
    have r2 : ∀ a b c d e f g : PyData, ixD (.list [a, b, c, d, e, f, g]) (.int 2) = .ok c := fun a b c d e f g => ixL_nat (i := 2) rfl
    have r3 : ∀ a b c d e f g : PyData, ixD (.list [a, b, c, d, e, f, g]) (.int 3) = .ok d := fun a b c d e f g => ixL_nat (i := 3) rfl
    have r4 : ∀ a b c d e f g : PyData, ixD (.list [a, b, c, d, e, f, g]) (.int 4) = .ok e := fun a b c d e f g => ixL_nat (i := 4) rfl
    have r5 : ∀ a b c d e f g : PyData, ixD (.list [a, b, c, d, e, f, g]) (.int 5) = .ok f := fun a b c d e f g => ixL_nat (i := 5) rfl
    have r6 : ∀ a b c d e f g : PyData, ixD (.list [a, b, c, d, e, f, g]) (.int 6) = .ok g := fun a b c d e f g => ixL_nat (i := 6) rfl
    have t2 : ∀ a b c : PyData, ixD (.list [a, b, c]) (.int 2) = .ok c := fun a b c => ixL_nat (i := 2) rfl
    have h35' := h35
    simp only [List.map_cons, List.map_nil] at h35'
    simp only [nT] at g1 g2
    have hx : x0 = 0 ∨ x0 = 1 ∨ x0 = 2 := by omega
    have n1 : ¬ ("must" : Str) = "ban" := by decide +kernel
    have n2 : ¬ ("may" : Str) = "ban" := by decide +kernel
    have n3 : ¬ ("may" : Str) = "must" := by decide +kernel
    have n4 : ¬ ("ban" : Str) = "must" := by decide +kernel
    rcases hx with rfl | rfl | rfl
    · by_cases h6 : 0 < x6
      · refine ⟨⟨"must", p.ps[i], p.as[j], x3 + 1, some l1, none⟩, cl_in hc (by simp) o1 o2 (by omega) a1 trivial (by simp) (by simp), ?_⟩
        simp [t40, h35', r2, r3, r4, r5, r6, t2, g1, g2, n1, h6, Pl.d, q1, q2, Cl.d, nO, nT]
      · refine ⟨⟨"must", p.ps[i], p.as[j], x3 + 1, some l1, some l2⟩, cl_in hc (by simp) o1 o2 (by omega) a1 a2 (by simp) (by simp), ?_⟩
        simp [t40, h35', r2, r3, r4, r5, r6, t2, g1, g2, n1, h6, Pl.d, q1, q2, Cl.d, nO, nT]
    · refine ⟨⟨"may", p.ps[i], p.as[j], x3 + 1, some l1, some l2⟩, cl_in hc (by simp) o1 o2 (by omega) a1 a2 (by simp) (by simp), ?_⟩
      simp [t40, h35', r2, r3, r4, r5, r6, t2, g1, g2, n2, n3, Pl.d, q1, q2, Cl.d, nO, nT]
    · by_cases h6 : 0 < x6
      · refine ⟨⟨"ban", p.ps[i], p.as[j], x3 + 1, none, some l2⟩, cl_in hc (by simp) o1 o2 (by omega) trivial a2 (by simp) (by simp), ?_⟩
        simp [t40, h35', r2, r3, r4, r5, r6, t2, g1, g2, n4, h6, Pl.d, q1, q2, Cl.d, nO, nT]
      · refine ⟨⟨"ban", p.ps[i], p.as[j], x3 + 1, some l1, some l2⟩, cl_in hc (by simp) o1 o2 (by omega) a1 a2 (by simp) (by simp), ?_⟩
        simp [t40, h35', r2, r3, r4, r5, r6, t2, g1, g2, n4, h6, Pl.d, q1, q2, Cl.d, nO, nT]
theorem v40 (k : Nat) (cell : Int) (count most : Nat) (hc : count ≤ 16) (p : Pl) (hp : p.Ok) : ∃ c, ClIn count c ∧ Ev (k + 2) 40 [.int cell, .int count, p.d, .int most] = .ok c.d := by
  obtain ⟨xs, h1, h2⟩ := v35 k cell [3, 3, 4, 30, 65536, 65536, 3] (by decide) (by
    intro l hl
    simp at hl
    rcases hl with rfl | rfl | rfl | rfl | rfl <;> exact ⟨by decide, by decide +kernel⟩)
  obtain ⟨c, h3, h4⟩ := u40 (Ev (k + 1)) cell count most hc p hp xs h1 h2 (fun m => v39 k m count most hc)
  exact ⟨c, h3, (e40 (k + 1) _).trans h4⟩
theorem u41 (Φ : Ph) (ns : List Int) (at_ : Int) (count most : Nat) (hc : count ≤ 16) (p : PyData) (ha : 0 ≤ at_) (h34 : ∀ j : Int, 0 ≤ j → ∃ n : Int, Φ 34 [.list (ns.map .int), .int j] = .ok (.int n)) (h40 : ∀ n : Int, ∃ c, ClIn count c ∧ Φ 40 [.int n, .int count, p, .int most] = .ok c.d) (h35 : ∀ n : Int, ∃ x : Int, Φ 35 [.int n, .list [.int 65536]] = .ok (.list [.int x])) (h39 : ∀ mask : Int, ∃ l, Asc count l ∧ Φ 39 [.int mask, .int count, .int most] = .ok (nT l)) :
    ∃ c : Ct, c.Ok ∧ c.cs.length = count ∧ runC (t41 Φ) ["script", "at", "count", "pools", "most", "clauses", "k"] ["script", "at", "count", "pools", "most"] [.list (ns.map .int), .int at_, .int count, p, .int most] = .ok c.d := by
  have hr := cRange1_nat (n := count) (a := cVarB 2) (ρ := [.dat (.list (ns.map .int)) false, .dat (.int at_) false, .dat (.int count) false, .dat p false, .dat (.int most) false, .no, .no]) (by simp) (by omega)
  obtain ⟨cs, hq, hl, hok⟩ := compL_ex natD Cl.d (ClIn count) (i := 6) (e := c41_0 Φ) (ρ := [.dat (.list (ns.map .int)) false, .dat (.int at_) false, .dat (.int count) false, .dat p false, .dat (.int most) false, .no, .no]) (l := List.range count) (by
    intro j hj
    obtain ⟨n, g1⟩ := h34 (at_ + 1 + j) (by omega)
    obtain ⟨c, q, g2⟩ := h40 n
    exact ⟨c, q, by simp [c41_0, natD, g1, g2]⟩)
  rw [List.length_range] at hl
  obtain ⟨n, g1⟩ := h34 at_ ha
  obtain ⟨x, g2⟩ := h35 n
  obtain ⟨l, al, g3⟩ := h39 x
  refine ⟨⟨cs, l⟩, ⟨by show cs.length ≤ 16; omega, fun y hy => by rw [hl]; exact hok y hy, by show Asc (cs.length : Nat) l; rw [hl]; exact al⟩, hl, ?_⟩
  generalize hR : (List.range count).map natD = L at hr hq
  simp [-cRange1_ap, t41, hr, hq, g1, g2, g3, Ct.d]
theorem v41 (k : Nat) (ns : List Int) (hn : ns.length ≤ 63) (at_ : Int) (count most : Nat) (hc : count ≤ 16) (p : Pl) (hp : p.Ok) (ha : 0 ≤ at_) : ∃ c : Ct, c.Ok ∧ c.cs.length = count ∧ Ev (k + 3) 41 [.list (ns.map .int), .int at_, .int count, p.d, .int most] = .ok c.d := by
  obtain ⟨c, h1, h2, h3⟩ := u41 (Ev (k + 2)) ns at_ count most hc p.d ha (fun j hj => v34 (k + 1) ns hn j hj) (fun n => v40 k n count most hc p hp) (fun n => by
    obtain ⟨xs, h1, h2⟩ := v35 (k + 1) n [65536] (by decide) (by
      intro l hl
      simp at hl
      subst hl
      exact ⟨by decide, by decide +kernel⟩)
    match xs, h1 with
    | [x], _ => exact ⟨x, h2⟩) (fun m => v39 (k + 1) m count most hc)
  exact ⟨c, h1, h2, (e41 (k + 2) _).trans h3⟩
end Pv.K42


namespace Pv.K42
open PySem PySem.Spec L2
open PyProof.Rows hiding St

/-! ### strikes right -/
theorem numsD_true {lim : Int} : ∀ {l : List Int} {a : Int}, numsD lim a (l.map .int) = true → SAsc l ∧ ∀ n ∈ l, a ≤ n ∧ n < lim
  | [], _, _ => ⟨List.Pairwise.nil, by simp⟩
  | x :: l, a, h => by
    have h' : (decide (a ≤ x) && (decide (x < lim) && numsD lim (x + 1) (l.map .int))) = true := h
    simp only [Bool.and_eq_true, decide_eq_true_iff] at h'
    obtain ⟨h1, h2, h3⟩ := h'
    obtain ⟨g1, g2⟩ := numsD_true h3
    refine ⟨List.pairwise_cons.mpr ⟨fun n hn => by have := (g2 n hn).1; omega, g1⟩, ?_⟩
    intro n hn
    rcases List.mem_cons.mp hn with rfl | hn
    · exact ⟨h1, h2⟩
    · have := g2 n hn
      omega
theorem v2_false (k : Nat) {l : List Int} {lim : Int} (h : ¬ Asc lim l) : Ev (k + 2) 2 [nT l, .int lim] = .ok (.bool false) := by
  rw [nT, v2]
  cases e : numsD lim 0 (l.map .int) with
  | false => rfl
  | true => exact absurd (numsD_true e) h
def wrongL (n : Nat) (l : List Int) : List PyData := [.list (l.map .int), nT (-1 :: l), nT (l ++ [(n : Int)]), .tuple [.bool true], .none] ++ (if 0 < l.length then [nT (l ++ l.drop (l.length - 1)), nT (l.take 1 ++ l)] else []) ++ (if 1 < l.length then [nT l.reverse] else [])
theorem wrong_ok (k : Nat) {n : Nat} {l : List Int} (h : Asc n l) : ∀ d ∈ wrongL n l, Ev (k + 2) 2 [d, .int n] = .ok (.bool false) := by
  intro d hd
  unfold wrongL at hd
  rcases List.mem_append.mp hd with hd | hd
  · rcases List.mem_append.mp hd with hd | hd
    · simp only [List.mem_cons, List.not_mem_nil, or_false] at hd
      rcases hd with rfl | rfl | rfl | rfl | rfl
      · exact v2_no k _ _ (by intro ds; simp)
      · refine v2_false k fun z => ?_
        have := (z.2 (-1) List.mem_cons_self).1
        omega
      · refine v2_false k fun z => ?_
        have := (z.2 n (by simp)).2
        omega
      · rw [v2]; rfl
      · exact v2_no k _ _ (by intro ds; simp)
    · split at hd
      · rename_i hl
        simp only [List.mem_cons, List.not_mem_nil, or_false] at hd
        rcases hd with rfl | rfl
        · refine v2_false k fun z => ?_
          have e : l.drop (l.length - 1) = [l[l.length - 1]] := by
            rw [List.drop_eq_getElem_cons (by omega), List.drop_eq_nil_of_le (by omega)]
          rw [e] at z
          have := (List.pairwise_append.mp z.1).2.2 l[l.length - 1] (List.getElem_mem _) l[l.length - 1] (by simp)
          omega
        · refine v2_false k fun z => ?_
          cases l with
          | nil => simp at hl
          | cons x l =>
            have := (List.pairwise_append.mp z.1).2.2 x (by simp) x (by simp)
            omega
      · exact absurd hd (by simp)
  · split at hd
    · rename_i hl
      simp only [List.mem_cons, List.not_mem_nil, or_false] at hd
      subst hd
      refine v2_false k fun z => ?_
      match l, hl with
      | x :: y :: l, _ =>
        have a1 := (List.pairwise_cons.mp h.1).1 y (by simp)
        have z1 := z.1
        rw [List.reverse_cons, List.reverse_cons] at z1
        have := (List.pairwise_append.mp z1).2.2 y (by simp) x (by simp)
        omega
    · exact absurd hd (by simp)
theorem u53_b0 (Φ : Ph) (c s r : PyData) (a2 a3 a4 a5 a7 a8 : Sl) (n : Sl) (h45 : Φ 45 [.str "all", c, s, c] = .ok r) (h52 : Φ 52 [c, s] = .ok r) (h36 : Φ 36 [r, r] = .ok (.bool true)) : b53_0 Φ [.dat c false, n, a2, a3, a4, a5, .dat s false, a7, a8] = .nx [.dat c false, n, a2, a3, a4, a5, .dat s false, a7, a8] := by
  simp [b53_0, h45, h52, h36]
theorem u53_b1 (Φ : Ph) (c s : PyData) (a2 a3 a4 a5 a6 a7 : Sl) (n : Sl) (h45 : Φ 45 [.str "all", c, s, c] = .ok (.tuple [.str "order"])) (h36 : Φ 36 [.tuple [.str "order"], .tuple [.str "order"]] = .ok (.bool true)) : b53_1 Φ [.dat c false, n, a2, a3, a4, a5, a6, a7, .dat s false] = .nx [.dat c false, n, a2, a3, a4, a5, a6, a7, .dat s false] := by
  simp [b53_1, h45, h36]
theorem u53 (Φ : Ph) (c : Ct) (hc : c.Ok) (d m r due : PyData) (l : List Int) (hl : Asc c.cs.length l) (b : Bool) (h46 : Φ 46 [c.d, d] = .ok (.bool b)) (h52 : b = true → Φ 52 [c.d, .tuple [d]] = .ok due) (hdue : b = false → due = .tuple [.str "clause", d]) (h45 : Φ 45 [.str "struck", c.d, d, c.d] = .ok r) (h36 : Φ 36 [r, due] = .ok (.bool true))
    (h39 : Φ 39 [m, .int c.cs.length, .int 16] = .ok (nT l)) (hall : ∀ l', Asc c.cs.length l' → ∃ r, Φ 45 [.str "all", c.d, nT l', c.d] = .ok r ∧ Φ 52 [c.d, nT l'] = .ok r ∧ Φ 36 [r, r] = .ok (.bool true)) (hw : ∀ w ∈ wrongL c.cs.length l, Φ 45 [.str "all", c.d, w, c.d] = .ok (.tuple [.str "order"])) (ho : Φ 36 [.tuple [.str "order"], .tuple [.str "order"]] = .ok (.bool true)) :
    runC (t53 Φ) ["contract", "number", "mask", "due", "count", "numbers", "some", "wrong", "value"] ["contract", "number", "mask"] [c.d, d, m] = .ok (.bool true) := by
  have hfew := hc.few
  have hlen := asc_len hl
  have a3 : ixD c.d (.int 0) = .ok (.tuple (c.cs.map Cl.d)) := ixT_0 ..
  rw [run_of (ρ := [.dat c.d false, .dat d false, .dat m false, .no, .no, .no, .no, .no, .no]) rfl rfl]
  unfold t53
  have s1 : disow [1] (sSet 3 false (cTup [cK (.str "clause"), cVar 1])) [.dat c.d false, .dat d false, .dat m false, .no, .no, .no, .no, .no, .no] = .nx [.dat c.d false, .dat d false, .dat m false, .dat (.tuple [.str "clause", d]) false, .no, .no, .no, .no, .no] := by simp
  rw [seq_nx s1]
  have s2 : sIf (cTst (cCall Φ 46 [cVarB 0, cVarB 1] [some 0, some 1])) (sSeq (disow [1] (sSet 3 false (cCall Φ 52 [cVarB 0, cTup [cVar 1]] [some 0, none]))) (sNx)) (sNx) [.dat c.d false, .dat d false, .dat m false, .dat (.tuple [.str "clause", d]) false, .no, .no, .no, .no, .no] = .nx [.dat c.d false, .dat d false, .dat m false, .dat due false, .no, .no, .no, .no, .no] := by
    cases b with
    | true => simp [h46, h52 rfl]
    | false => rw [hdue rfl]; simp [h46]
  rw [seq_nx s2]
  have s3 : sIf (cNotT (cTst (cCall Φ 36 [cCall Φ 45 [cK (.str "struck"), cVarB 0, cVarB 1, cVarB 0] [none, some 0, some 1, some 0], cVarB 3] [none, some 3]))) (sSeq (disow [] (sRet (cK (.bool false)))) (sNx)) (sNx) [.dat c.d false, .dat d false, .dat m false, .dat due false, .no, .no, .no, .no, .no] = .nx [.dat c.d false, .dat d false, .dat m false, .dat due false, .no, .no, .no, .no, .no] := by
    simp [h45, h36]
  rw [seq_nx s3]
  have s4 : disow [] (sSet 4 false (c1 lenD (c2 ixD (cVarB 0) (cK (.int 0))))) [.dat c.d false, .dat d false, .dat m false, .dat due false, .no, .no, .no, .no, .no] = .nx [.dat c.d false, .dat d false, .dat m false, .dat due false, .dat (.int c.cs.length) false, .no, .no, .no, .no] := by
    simp [a3]
  rw [seq_nx s4]
  have s5 : disow [] (sSet 5 false (cCall Φ 39 [cVarB 2, cVarB 4, cK (.int 16)] [some 2, some 4, none])) [.dat c.d false, .dat d false, .dat m false, .dat due false, .dat (.int c.cs.length) false, .no, .no, .no, .no] = .nx [.dat c.d false, .dat d false, .dat m false, .dat due false, .dat (.int c.cs.length) false, .dat (nT l) false, .no, .no, .no] := by
    simp [h39, nT]
  rw [seq_nx s5]
  have hr := cRange1_nat (n := c.cs.length) (a := cVarB 4) (ρ := [.dat c.d false, .dat d false, .dat m false, .dat due false, .dat (.int c.cs.length) false, .dat (nT l) false, .no, .no, .no]) (by simp) (by omega)
  rw [natD_upTo] at hr
  obtain ⟨y, hf⟩ := forL_same nT (fun y => [.dat c.d false, .dat d false, .dat m false, .dat due false, .dat (.int c.cs.length) false, .dat (nT l) false, y, .no, .no]) (i := 6) (b := b53_0 Φ) [l, [], upTo c.cs.length] (fun x y => rfl) (by
    intro l' hl'
    have ha : Asc c.cs.length l' := by
      simp only [List.mem_cons, List.not_mem_nil, or_false] at hl'
      rcases hl' with rfl | rfl | rfl
      · exact hl
      · exact ⟨List.Pairwise.nil, by simp⟩
      · exact asc_upTo _
    obtain ⟨r, g1, g2, g3⟩ := hall l' ha
    exact u53_b0 Φ _ _ r _ _ _ _ _ _ _ g1 g2 g3) .no
  have s6 : disow [5] (sFor (cItE (cLst [cVar 5, cTup [], cRgS false (cVarB 4)])) (.one 6) (b53_0 Φ)) [.dat c.d false, .dat d false, .dat m false, .dat due false, .dat (.int c.cs.length) false, .dat (nT l) false, .no, .no, .no] = .nx [.dat c.d false, .dat d false, .dat m false, .dat due false, .dat (.int c.cs.length) false, .dat (nT l) false, y, .no, .no] := by
    rw [disow_ap]
    refine for_nx (ds := [l, [], upTo c.cs.length].map nT) ?_ hf
    simp only [nT] at hr ⊢
    simp [-cRange1_ap, hr]
    exact ⟨rfl, rfl, rfl⟩
  rw [seq_nx s6]
  have z3 : sizeLine = 16777216 := rfl
  have p1 : addD (.tuple [.int (-1)]) (.tuple (l.map .int)) = .ok (.tuple ((-1 :: l).map .int)) := addT _ _ (by simp; omega)
  have p2 : addD (.tuple (l.map .int)) (.tuple [.int c.cs.length]) = .ok (.tuple ((l ++ [(c.cs.length : Int)]).map .int)) := by
    rw [List.map_append]
    exact addT _ _ (by simp; omega)
  have s7 : disow [4] (sSet 7 true (cLst [c1 listD (cVarB 5), c2 addD (cTup [c1 negD (cK (.int 1))]) (cVarB 5), c2 addD (cVarB 5) (cTup [cVar 4]), cTup [cK (.bool true)], cK .none])) [.dat c.d false, .dat d false, .dat m false, .dat due false, .dat (.int c.cs.length) false, .dat (nT l) false, y, .no, .no] = .nx [.dat c.d false, .dat d false, .dat m false, .dat due false, .dat (.int c.cs.length) false, .dat (nT l) false, y, .dat (.list [.list (l.map .int), nT (-1 :: l), nT (l ++ [(c.cs.length : Int)]), .tuple [.bool true], .none]) true, .no] := by
    have q : ∀ a b : PyData, addD (.tuple (l.map .int)) (.tuple [.int c.cs.length]) = .ok (.tuple ((l ++ [(c.cs.length : Int)]).map .int)) := fun _ _ => p2
    simp [nT, p1, p2]
  rw [seq_nx s7]
  have s8 : sIf (cTst (c2 gtD (c1 lenD (cVarB 5)) (cK (.int 0)))) (sSeq (disow [] (sSet 7 true (c2 addD (cVarB 7) (cLst [c2 addD (cVarB 5) (cSl (cVarB 5) (some (c1 negD (cK (.int 1)))) none), c2 addD (cSl (cVarB 5) none (some (cK (.int 1)))) (cVarB 5)])))) (sNx)) (sNx) [.dat c.d false, .dat d false, .dat m false, .dat due false, .dat (.int c.cs.length) false, .dat (nT l) false, y, .dat (.list [.list (l.map .int), nT (-1 :: l), nT (l ++ [(c.cs.length : Int)]), .tuple [.bool true], .none]) true, .no] = .nx [.dat c.d false, .dat d false, .dat m false, .dat due false, .dat (.int c.cs.length) false, .dat (nT l) false, y, .dat (.list ([.list (l.map .int), nT (-1 :: l), nT (l ++ [(c.cs.length : Int)]), .tuple [.bool true], .none] ++ (if 0 < l.length then [nT (l ++ l.drop (l.length - 1)), nT (l.take 1 ++ l)] else []))) true, .no] := by
    by_cases h : 0 < l.length
    · have k1 : cutD (l.map PyData.int) (some (-(1 : Nat))) none = (l.drop (l.length - 1)).map .int := by
        rw [cutD_last _ _ (by omega) (by rw [List.length_map]; omega)]
        simp
      have k1' : cutD (l.map PyData.int) (some (-1)) none = (l.drop (l.length - 1)).map .int := k1
      have k2 : cutD (l.map PyData.int) none (some 1) = (l.take 1).map .int := by
        rw [List.map_take]
        exact cutD_to _ 1
      have e1 : addD (.tuple (l.map .int)) (.tuple ((l.drop (l.length - 1)).map .int)) = .ok (nT (l ++ l.drop (l.length - 1))) := by
        rw [nT, List.map_append]
        exact addT _ _ (by simp; omega)
      have e2 : addD (.tuple ((l.take 1).map .int)) (.tuple (l.map .int)) = .ok (nT (l.take 1 ++ l)) := by
        rw [nT, List.map_append]
        exact addT _ _ (by simp; omega)
      have e3 : ∀ A B : PyData, addD (.list [.list (l.map .int), nT (-1 :: l), nT (l ++ [(c.cs.length : Int)]), .tuple [.bool true], .none]) (.list [A, B]) = .ok (.list ([.list (l.map .int), nT (-1 :: l), nT (l ++ [(c.cs.length : Int)]), .tuple [.bool true], .none] ++ [A, B])) := fun A B => addL _ _ (by simp; omega)
      have h' : (0 : Int) < (l.length : Int) := by omega
      rw [if_pos h]
      have hn : lenD (nT l) = .ok (.int l.length) := by simp [nT]
      have hs1 : slD (nT l) (some (-1)) none = .ok (.tuple ((l.drop (l.length - 1)).map .int)) := by rw [nT, slD_tuple, k1']
      have hs2 : slD (nT l) none (some 1) = .ok (.tuple ((l.take 1).map .int)) := by rw [nT, slD_tuple, k2]
      have e1' : addD (nT l) (.tuple ((l.drop (l.length - 1)).map .int)) = .ok (nT (l ++ l.drop (l.length - 1))) := e1
      have e2' : addD (.tuple ((l.take 1).map .int)) (nT l) = .ok (nT (l.take 1 ++ l)) := e2
      simp only [sIf_ap, cTst_ap, c2_ap, c1_ap, cVarB_ap, cK_ap, List.getElem?_cons_succ, List.getElem?_cons_zero, R.bind_ok, hn, quiet_ok, gtD_int, isB_bool, h', decide_true, sSeq_ap, disow_ap, disL_nil, sSet_ap, cLst_ap, cAll_cons, cAll_nil, cSl_ap, optI_none, optI_some, negD_int, hs1, hs2, e1', e2', e3, sNx_ap, List.length_cons, List.length_nil]
      rfl
    · have h' : l = [] := by
        cases l with
        | nil => rfl
        | cons x l => exact absurd (Nat.zero_lt_succ _) h
      subst h'
      rw [if_neg h]
      simp [nT]
  rw [seq_nx s8]
  have s9 : ∀ W : List PyData, W.length ≤ 100 → sIf (cTst (c2 gtD (c1 lenD (cVarB 5)) (cK (.int 1)))) (sSeq (disow [] (sApp 7 (c1 revD (cVarB 5)))) (sNx)) (sNx) [.dat c.d false, .dat d false, .dat m false, .dat due false, .dat (.int c.cs.length) false, .dat (nT l) false, y, .dat (.list W) true, .no] = .nx [.dat c.d false, .dat d false, .dat m false, .dat due false, .dat (.int c.cs.length) false, .dat (nT l) false, y, .dat (.list (W ++ if 1 < l.length then [nT l.reverse] else [])) true, .no] := by
    intro W hW
    by_cases h : 1 < l.length
    · have h' : (1 : Int) < (l.length : Int) := by omega
      have n1 : W.length < 16000000 := by omega
      rw [if_pos h]
      simp [nT, h', n1, List.map_reverse]
    · have h' : ¬ (1 : Int) < (l.length : Int) := by omega
      rw [if_neg h]
      simp [nT, h']
  rw [seq_nx (s9 _ (by split <;> simp))]
  obtain ⟨y8, hf8⟩ := forL_same (fun x : PyData => x) (fun y8 => [.dat c.d false, .dat d false, .dat m false, .dat due false, .dat (.int c.cs.length) false, .dat (nT l) false, y, .dat (.list (wrongL c.cs.length l)) false, y8]) (i := 8) (b := b53_1 Φ) (wrongL c.cs.length l) (fun x y => rfl) (fun w hwm => u53_b1 Φ _ _ _ _ _ _ _ _ _ (hw w hwm) ho) .no
  rw [List.map_id'] at hf8
  have s10 : disow [7] (sFor (cItE (cVar 7)) (.one 8) (b53_1 Φ)) [.dat c.d false, .dat d false, .dat m false, .dat due false, .dat (.int c.cs.length) false, .dat (nT l) false, y, .dat (.list (wrongL c.cs.length l)) true, .no] = .nx [.dat c.d false, .dat d false, .dat m false, .dat due false, .dat (.int c.cs.length) false, .dat (nT l) false, y, .dat (.list (wrongL c.cs.length l)) false, y8] := by
    rw [disow_ap]
    exact for_nx (by simp) hf8
  refine (congrArg endC (seq_nx (ρ' := [.dat c.d false, .dat d false, .dat m false, .dat due false, .dat (.int c.cs.length) false, .dat (nT l) false, y, .dat (.list (wrongL c.cs.length l)) false, y8]) s10)).trans ?_
  simp
end Pv.K42


namespace Pv.K42
open PySem PySem.Spec L2
open PyProof.Rows hiding St

theorem rk_len (kp l : List Int) : (rk kp l).length ≤ l.length := by
  unfold rk
  rw [List.length_map]
  exact List.length_filter_le _ _
theorem plain_keep {c : Ct} (hc : c.Ok) {kp : List Int} (hk : kp.length ≤ 1000) : plainD 9 (.tuple [.str "contract", keepD c kp]) = true := by
  refine plain_two 7 (plain_cls 3 (Nat.le_trans (rk_len _ _) hc.opn) (by simpa using hk) ?_)
  intro d hd
  obtain ⟨n, hn, rfl⟩ := List.mem_map.mp hd
  unfold pickD
  cases h : c.cs[n.toNat]? with
  | none => rfl
  | some x => exact plain_cl 3 (few_map (rk_len kp) (hc.fews x (List.mem_of_getElem? h)))
theorem kpt_len (n : Nat) (l : List Int) : (kpt n l).length ≤ n := asc_len (asc_kpt n l)
theorem v53 (k : Nat) {c : Ct} (hc : c.Ok) (d : PyData) (hd : Leaf d) (m : Int) : Ev (k + 11) 53 [c.d, d, .int m] = .ok (.bool true) := by
  have hf := hc.few
  obtain ⟨l, hl, h39⟩ := v39 (k + 9) m c.cs.length 16 hc.few
  obtain ⟨r, g1, g2⟩ := told_struck k hc d c.d
  have h46 : Ev (k + 10) 46 [c.d, d] = .ok (.bool (hasN c.cs.length d)) := v46 (k + 9) c d
  have key : ∀ l', Asc c.cs.length l' → plainD 9 (.tuple [.str "contract", keepD c (kpt c.cs.length l')]) = true := fun l' _ => plain_keep hc (Nat.le_trans (kpt_len _ _) (by omega))
  refine (e53 (k + 10) _).trans ?_
  have hdue : (hasN c.cs.length d = true → Ev (k + 10) 52 [c.d, .tuple [d]] = .ok r) ∧ (hasN c.cs.length d = false → r = .tuple [.str "clause", d]) ∧ plainD 9 r = true := by
    rcases g2 with ⟨e1, e2⟩ | ⟨e1, e2⟩
    · refine ⟨fun z => ?_, fun _ => e2, ?_⟩
      · rw [e1] at z; cases z
      · rw [e2]; exact plain_two 7 (hd 7)
    · obtain ⟨i, hi, rfl⟩ := hasN_int e1
      have a := v52 k c [(i : Int)] hc
      have b := v52 (k + 8) c [(i : Int)] hc
      have e : r = .tuple [.str "contract", keepD c (kpt c.cs.length [(i : Int)])] := by
        have := e2.symm.trans a
        injection this
      refine ⟨fun _ => ?_, fun z => ?_, ?_⟩
      · rw [e]; exact b
      · rw [e1] at z; cases z
      · rw [e]
        exact key _ ⟨List.pairwise_singleton .., by simp; omega⟩
  refine u53 (Ev (k + 10)) c hc d (.int m) r r l hl _ h46 hdue.1 hdue.2.1 g1 (v36 9 (k + 1) r hdue.2.2) h39 ?_ ?_ (v36 9 (k + 1) _ rfl)
  · intro l' hl'
    obtain ⟨r, q1, q2⟩ := told_all (k + 1) hc hl' c.d
    have a := v52 (k + 1) c l' hc
    have e : r = .tuple [.str "contract", keepD c (kpt c.cs.length l')] := by
      have := q2.symm.trans a
      injection this
    refine ⟨r, q1, ?_, ?_⟩
    · rw [e]; exact v52 (k + 8) c l' hc
    · refine v36 9 (k + 1) r ?_
      rw [e]; exact key _ hl'
  · intro w hw
    exact told_order (k + 1) w c.d (wrong_ok (k + 5) hl w hw)
/-! ### the law -/
theorem u55_b0 (Φ : Ph) (c s n r1 r2 : PyData) (a0 a1 a2 a3 a6 a7 : Sl) (h1 : Φ 45 [.str "with", c, n, s] = .ok r1) (h2 : Φ 48 [c, n, s] = .ok r1) (h3 : Φ 36 [r1, r1] = .ok (.bool true)) (h4 : Φ 45 [.str "without", c, n, s] = .ok r2) (h5 : Φ 50 [c, n] = .ok r2) (h6 : Φ 36 [r2, r2] = .ok (.bool true)) :
    b55_0 Φ [a0, a1, a2, a3, .dat c false, .dat s false, a6, a7, .dat n false] = .nx [a0, a1, a2, a3, .dat c false, .dat s false, a6, a7, .dat n false] := by
  simp [b55_0, h1, h2, h3, h4, h5, h6]
theorem u55_b1 (Φ : Ph) (c n x : PyData) (ds : PyData) (a0 a2 a3 a5 a6 a7 : Sl) (hi : ixD ds (.int 6) = .ok x) (h : Φ 53 [c, n, x] = .ok (.bool true)) :
    b55_1 Φ [a0, .dat ds false, a2, a3, .dat c false, a5, a6, a7, .dat n false] = .nx [a0, .dat ds false, a2, a3, .dat c false, a5, a6, a7, .dat n false] := by
  simp [b55_1, h, hi]
theorem u55 (Φ : Ph) (ns : List Int) (n0 n1 : Int) (xs : List Int) (hd : Dr xs [3, 7, 4, 4, 2, 16, 65536]) (p : PyData)
    (h34 : Φ 34 [.list (ns.map .int), .int 0] = .ok (.int n0)) (h35 : Φ 35 [.int n0, .list (List.map .int [3, 7, 4, 4, 2, 16, 65536])] = .ok (.list (xs.map .int))) (h34' : Φ 34 [.list (ns.map .int), .int 1] = .ok (.int n1)) (h38 : Φ 38 [.int n1] = .ok p)
    (h41 : ∀ (at_ : Int) (count most : Nat), count ≤ 16 → 0 ≤ at_ → ∃ c : Ct, c.Ok ∧ c.cs.length = count ∧ Φ 41 [.list (ns.map .int), .int at_, .int count, p, .int most] = .ok c.d)
    (h54 : ∀ c : Ct, c.Ok → Φ 54 [c.d] = .ok (.bool true))
    (hw : ∀ c s : Ct, c.Ok → s.Ok → ∀ n, Leaf n → ∃ r, Φ 45 [.str "with", c.d, n, s.d] = .ok r ∧ Φ 48 [c.d, n, s.d] = .ok r ∧ Φ 36 [r, r] = .ok (.bool true))
    (hwo : ∀ c s : Ct, c.Ok → s.Ok → ∀ n, Leaf n → ∃ r, Φ 45 [.str "without", c.d, n, s.d] = .ok r ∧ Φ 50 [c.d, n] = .ok r ∧ Φ 36 [r, r] = .ok (.bool true))
    (h53 : ∀ c : Ct, c.Ok → ∀ n, Leaf n → ∀ m : Int, Φ 53 [c.d, n, .int m] = .ok (.bool true)) :
    runC (t55 Φ) ["script", "draws", "count", "pools", "contract", "second", "numbers", "k", "number"] ["script"] [.list (ns.map .int)] = .ok (.bool true) := by
  match xs, hd with
  | [x0, x1, x2, x3, x4, x5, x6], hd =>
    obtain ⟨d0, d1, d2, d3, d4, d5, d6, _⟩ := hd
    obtain ⟨S, hS⟩ : ∃ S, PyData.list (ns.map .int) = S := ⟨_, rfl⟩
    have hSl : isL S = true := by rw [← hS]; rfl
    rw [hS] at h34 h34' ⊢
    obtain ⟨D, hD⟩ : ∃ D, PyData.list (List.map .int [x0, x1, x2, x3, x4, x5, x6]) = D := ⟨_, rfl⟩
    have r0 : ixD D (.int 0) = .ok (.int x0) := by rw [← hD]; exact ixL_nat (i := 0) rfl
    have r1 : ixD D (.int 1) = .ok (.int x1) := by rw [← hD]; exact ixL_nat (i := 1) rfl
    have r2 : ixD D (.int 2) = .ok (.int x2) := by rw [← hD]; exact ixL_nat (i := 2) rfl
    have r3 : ixD D (.int 3) = .ok (.int x3) := by rw [← hD]; exact ixL_nat (i := 3) rfl
    have r4 : ixD D (.int 4) = .ok (.int x4) := by rw [← hD]; exact ixL_nat (i := 4) rfl
    have r5 : ixD D (.int 5) = .ok (.int x5) := by rw [← hD]; exact ixL_nat (i := 5) rfl
    have r6 : ixD D (.int 6) = .ok (.int x6) := by rw [← hD]; exact ixL_nat (i := 6) rfl
    rw [hD] at h35
    simp only [List.map_cons, List.map_nil] at h35
    rw [run_of (ρ := [.dat S false, .no, .no, .no, .no, .no, .no, .no, .no]) rfl rfl]
    unfold t55
    have s1 : disow [] (sSet 1 false (cCall Φ 35 [cCall Φ 34 [cVarB 0, cK (.int 0)] [some 0, none], cLst [cK (.int 3), cK (.int 7), cK (.int 4), cK (.int 4), cK (.int 2), cK (.int 16), cK (.int 65536)]] [none, none])) [.dat S false, .no, .no, .no, .no, .no, .no, .no, .no] = .nx [.dat S false, .dat D false, .no, .no, .no, .no, .no, .no, .no] := by
      simp [h34, h35]
    rw [seq_nx s1]
    have s2 : disow [] (sSet 2 false (c2 ixD (cVarB 1) (cK (.int 1)))) [.dat S false, .dat D false, .no, .no, .no, .no, .no, .no, .no] = .nx [.dat S false, .dat D false, .dat (.int x1) false, .no, .no, .no, .no, .no, .no] := by
      simp [r1]
    rw [seq_nx s2]
    obtain ⟨n, hn1, hn2⟩ : ∃ n : Nat, n ≤ 16 ∧ (n : Int) = if x0 = 1 then 13 + x2 else x1 := by
      refine ⟨(if x0 = 1 then 13 + x2 else x1).toNat, ?_, ?_⟩
      · split <;> omega
      · split <;> omega
    have s3 : sIf (cTst (c2 eqD (c2 ixD (cVarB 1) (cK (.int 0))) (cK (.int 1)))) (sSeq (disow [] (sSet 2 true (c2 addD (cK (.int 13)) (c2 ixD (cVarB 1) (cK (.int 2)))))) (sNx)) (sNx) [.dat S false, .dat D false, .dat (.int x1) false, .no, .no, .no, .no, .no, .no] = .nx [.dat S false, .dat D false, .dat (.int n) false, .no, .no, .no, .no, .no, .no] := by
      rw [hn2]
      by_cases h : x0 = 1 <;> simp [r0, r2, h]
    rw [seq_nx s3]
    have s4 : disow [] (sSet 3 false (cCall Φ 38 [cCall Φ 34 [cVarB 0, cK (.int 1)] [some 0, none]] [none])) [.dat S false, .dat D false, .dat (.int n) false, .no, .no, .no, .no, .no, .no] = .nx [.dat S false, .dat D false, .dat (.int n) false, .dat p false, .no, .no, .no, .no, .no] := by
      simp [h34', h38]
    rw [seq_nx s4]
    rw [hS] at h41
    obtain ⟨m, hm⟩ : ∃ m : Nat, ixD (.list [.int 2, .int 16]) (.int x4) = .ok (.int m) := by
      have : x4 = 0 ∨ x4 = 1 := by omega
      rcases this with rfl | rfl
      · exact ⟨2, rfl⟩
      · exact ⟨16, rfl⟩
    obtain ⟨c, hc, hcl, g1⟩ := h41 2 n m hn1 (by decide)
    have s5 : disow [] (sSet 4 false (cCall Φ 41 [cVarB 0, cK (.int 2), cVarB 2, cVarB 3, c2 ixD (cLst [cK (.int 2), cK (.int 16)]) (c2 ixD (cVarB 1) (cK (.int 4)))] [some 0, none, some 2, some 3, none])) [.dat S false, .dat D false, .dat (.int n) false, .dat p false, .no, .no, .no, .no, .no] = .nx [.dat S false, .dat D false, .dat (.int n) false, .dat p false, .dat c.d false, .no, .no, .no, .no] := by
      simp [r4, hm, g1]
    rw [seq_nx s5]
    obtain ⟨n3, rfl⟩ := Int.eq_ofNat_of_zero_le d3.1
    obtain ⟨s, hs, hsl, g2⟩ := h41 19 n3 16 (by omega) (by decide)
    have g2' : Φ 41 [S, .int 19, .int n3, p, .int 16] = .ok s.d := g2
    have s6 : disow [] (sSet 5 false (cCall Φ 41 [cVarB 0, cK (.int 19), c2 ixD (cVarB 1) (cK (.int 3)), cVarB 3, cK (.int 16)] [some 0, none, none, some 3, none])) [.dat S false, .dat D false, .dat (.int n) false, .dat p false, .dat c.d false, .no, .no, .no, .no] = .nx [.dat S false, .dat D false, .dat (.int n) false, .dat p false, .dat c.d false, .dat s.d false, .no, .no, .no] := by
      simp [r3, g2']
    rw [seq_nx s6]
    have f1 := h54 c hc
    have f2 := h54 s hs
    have s7 : sIf (cOrT (cNotT (cTst (cCall Φ 54 [cVarB 4] [some 4]))) (cNotT (cTst (cCall Φ 54 [cVarB 5] [some 5])))) (sSeq (disow [] (sRet (cK (.bool false)))) (sNx)) (sNx) [.dat S false, .dat D false, .dat (.int n) false, .dat p false, .dat c.d false, .dat s.d false, .no, .no, .no] = .nx [.dat S false, .dat D false, .dat (.int n) false, .dat p false, .dat c.d false, .dat s.d false, .no, .no, .no] := by
      simp [f1, f2]
    rw [seq_nx s7]
    have hr : cRange1 (c2 min2D (cVarB 2) (cK (.int 6))) [.dat S false, .dat D false, .dat (.int n) false, .dat p false, .dat c.d false, .dat s.d false, .no, .no, .no] = .ok ((List.range (min n 6)).map natD) := by
      refine cRange1_nat ?_ (by omega)
      have : min2D (.int n) (.int 6) = .ok (.int (min n 6 : Nat)) := by
        show R.ok (PyData.int (if (6 : Int) < (n : Int) then 6 else n)) = _
        congr 2
        split <;> omega
      simp only [c2_ap, cVarB_ap, cK_ap, List.getElem?_cons_succ, List.getElem?_cons_zero, R.bind_ok, this, quiet_ok]
    have hq := compL_on_all natD natD (i := 7) (e := c55_0 Φ) (ρ := [.dat S false, .dat D false, .dat (.int n) false, .dat p false, .dat c.d false, .dat s.d false, .no, .no, .no]) (l := List.range (min n 6)) (by intro a ha; simp [c55_0])
    obtain ⟨q, hq2⟩ : ∃ q : Int, c2 modD (c1 intD (c2 ixD (cVarB 1) (cK (.int 5)))) (c2 max2D (cK (.int 1)) (cVarB 2)) [.dat S false, .dat D false, .dat (.int n) false, .dat p false, .dat c.d false, .dat s.d false, .no, .no, .no] = .ok (.int q) := by
      have e1 : max2D (.int 1) (.int n) = .ok (.int (if (n : Int) > 1 then n else 1)) := rfl
      have e2 := modD_int x5 (j := if (n : Int) > 1 then n else 1) (by split <;> omega)
      exact ⟨_, by simp only [c2_ap, c1_ap, cVarB_ap, cK_ap, List.getElem?_cons_succ, List.getElem?_cons_zero, R.bind_ok, r5, quiet_ok, intD_int, e1, e2]; rfl⟩
    have ha : addD (.list ((List.range (min n 6)).map natD)) (.list [.int (-1), .int n, .bool true, .none, .int q]) = .ok (.list ((List.range (min n 6)).map natD ++ [.int (-1), .int n, .bool true, .none, .int q])) := addL _ _ (by
      have : sizeLine = 16777216 := rfl
      simp; omega)
    obtain ⟨W, hW⟩ : ∃ W, (List.range (min n 6)).map natD ++ [.int (-1), .int n, .bool true, .none, .int q] = W := ⟨_, rfl⟩
    have hWl : ∀ w ∈ W, Leaf w := by
      intro w hw
      rw [← hW] at hw
      rcases List.mem_append.mp hw with hw | hw
      · obtain ⟨a, _, rfl⟩ := List.mem_map.mp hw
        exact leaf_int _
      · simp only [List.mem_cons, List.not_mem_nil, or_false] at hw
        rcases hw with rfl | rfl | rfl | rfl | rfl
        · exact leaf_int _
        · exact leaf_int _
        · exact leaf_bool _
        · exact leaf_none
        · exact leaf_int _
    have hcut : cutD W (some (-(5 : Nat))) none = W.drop (W.length - 5) := cutD_last _ _ (by decide) (by rw [← hW]; simp)
    rw [hW] at ha
    clear hW
    have s8 : disow [7, 2] (sSet 6 true (c2 addD (cComp (cRange1 (c2 min2D (cVarB 2) (cK (.int 6)))) [7] (.one 7) (tYesC) (c55_0 Φ)) (cLst [c1 negD (cK (.int 1)), cVar 2, cK (.bool true), cK .none, c2 modD (c1 intD (c2 ixD (cVarB 1) (cK (.int 5)))) (c2 max2D (cK (.int 1)) (cVarB 2))]))) [.dat S false, .dat D false, .dat (.int n) false, .dat p false, .dat c.d false, .dat s.d false, .no, .no, .no] = .nx [.dat S false, .dat D false, .dat (.int n) false, .dat p false, .dat c.d false, .dat s.d false, .dat (.list W) true, .no, .no] := by
      rw [disow_ap]
      have hdis : disL [7, 2] [.dat S false, .dat D false, .dat (.int n) false, .dat p false, .dat c.d false, .dat s.d false, .no, .no, .no] = [.dat S false, .dat D false, .dat (.int n) false, .dat p false, .dat c.d false, .dat s.d false, .no, .no, .no] := rfl
      rw [hdis]
      refine (set_ok (d := .list W) ?_).trans rfl
      have q1 : cComp (cRange1 (c2 min2D (cVarB 2) (cK (.int 6)))) [7] (.one 7) (tYesC) (c55_0 Φ) [.dat S false, .dat D false, .dat (.int n) false, .dat p false, .dat c.d false, .dat s.d false, .no, .no, .no] = .ok (.list ((List.range (min n 6)).map natD)) := by
        generalize hR : (List.range (min n 6)).map natD = L at hr hq
        rw [cComp_ap, hr]
        simp [hq]
      have q2 : cLst [c1 negD (cK (.int 1)), cVar 2, cK (.bool true), cK .none, c2 modD (c1 intD (c2 ixD (cVarB 1) (cK (.int 5)))) (c2 max2D (cK (.int 1)) (cVarB 2))] [.dat S false, .dat D false, .dat (.int n) false, .dat p false, .dat c.d false, .dat s.d false, .no, .no, .no] = .ok (.list [.int (-1), .int n, .bool true, .none, .int q]) := by
        rw [cLst_ap, cAll_cons, cAll_cons, cAll_cons, cAll_cons, cAll_cons, cAll_nil, hq2]
        simp
      rw [c2_ap, q1, R.bind_ok, q2, R.bind_ok, ha]
      rfl
    rw [seq_nx s8]
    obtain ⟨y, hf⟩ := forL_same (fun x : PyData => x) (fun y => [.dat S false, .dat D false, .dat (.int n) false, .dat p false, .dat c.d false, .dat s.d false, .dat (.list W) false, .no, y]) (i := 8) (b := b55_0 Φ) W (fun x y => rfl) (fun w hw1 => by
      obtain ⟨r1, a1, a2, a3⟩ := hw c s hc hs w (hWl w hw1)
      obtain ⟨r2, b1, b2, b3⟩ := hwo c s hc hs w (hWl w hw1)
      exact u55_b0 Φ _ _ _ r1 r2 _ _ _ _ _ _ a1 a2 a3 b1 b2 b3) .no
    rw [List.map_id'] at hf
    have s9 : disow [6] (sFor (cItE (cVar 6)) (.one 8) (b55_0 Φ)) [.dat S false, .dat D false, .dat (.int n) false, .dat p false, .dat c.d false, .dat s.d false, .dat (.list W) true, .no, .no] = .nx [.dat S false, .dat D false, .dat (.int n) false, .dat p false, .dat c.d false, .dat s.d false, .dat (.list W) false, .no, y] := by
      rw [disow_ap]
      exact for_nx (by simp) hf
    rw [seq_nx s9]
    obtain ⟨y2, hf2⟩ := forL_same (fun x : PyData => x) (fun y => [.dat S false, .dat D false, .dat (.int n) false, .dat p false, .dat c.d false, .dat s.d false, .dat (.list W) false, .no, y]) (i := 8) (b := b55_1 Φ) (W.drop (W.length - 5)) (fun x y => rfl) (fun w hw1 => u55_b1 Φ _ _ _ _ _ _ _ _ _ _ r6 (h53 c hc w (hWl w (List.mem_of_mem_drop hw1)) x6)) y
    rw [List.map_id'] at hf2
    have hcut' : cutD W (some (-5)) none = W.drop (W.length - 5) := hcut
    have s10 : disow [] (sFor (cItE (cSl (cVarB 6) (some (c1 negD (cK (.int 5)))) none)) (.one 8) (b55_1 Φ)) [.dat S false, .dat D false, .dat (.int n) false, .dat p false, .dat c.d false, .dat s.d false, .dat (.list W) false, .no, y] = .nx [.dat S false, .dat D false, .dat (.int n) false, .dat p false, .dat c.d false, .dat s.d false, .dat (.list W) false, .no, y2] := by
      refine for_nx0 ?_ hf2
      simp [hcut']
    rw [seq_nx s10]
    simp
theorem law_ok (ns : List Int) (h : ns.length ≤ 63) : PhN G WN FU 13 55 [.list (ns.map .int)] = .ok (.bool true) := by
  obtain ⟨n0, h34⟩ := v34 11 ns h 0 (by decide)
  obtain ⟨n1, h34'⟩ := v34 11 ns h 1 (by decide)
  obtain ⟨xs, hd, h35⟩ := v35 11 n0 [3, 7, 4, 4, 2, 16, 65536] (by decide) (by
    intro l hl
    simp at hl
    rcases hl with rfl | rfl | rfl | rfl | rfl | rfl <;> exact ⟨by decide, by decide +kernel⟩)
  obtain ⟨p, hp, h38⟩ := v38 10 n1
  refine (e55 12 _).trans (u55 (Ev 12) ns n0 n1 xs hd p.d h34 h35 h34' h38 ?_ ?_ ?_ ?_ ?_)
  · intro at_ count most hc ha
    exact v41 9 ns h at_ count most hc p hp ha
  · intro c hc
    exact v54 3 hc
  · intro c s hc hs n hn
    obtain ⟨r, a1, a2, a3⟩ := told_with 3 8 hc hs n hn
    exact ⟨r, a1, a2, v36 9 3 r a3⟩
  · intro c s hc hs n hn
    obtain ⟨r, a1, a2, a3⟩ := told_without 2 8 hc n s.d hn
    exact ⟨r, a1, a2, v36 9 3 r a3⟩
  · intro c hc n hn m
    exact v53 1 hc n hn m
end Pv.K42


open PySem PySem.W PySem.Calls PyProof.Rows
theorem PySem.Challenge.cw_pactwork_k42_remedies_and_strikes_holds : PySem.Challenge.rw_pactwork_k42_remedies_and_strikes.Holds := by
  w_on; o_law
  refine HandSHeadRun.head_any (r := OpenLaw.row PySem.Challenge.rw_pactwork_k42_remedies_and_strikes) (q := view (OpenLaw.row PySem.Challenge.rw_pactwork_k42_remedies_and_strikes).prog [76]) (H := Pv.K42.hk) (ob := Pv.K42.ob) (M := 6000) (loose := Pv.K42.looseL) (d := HandSHeadRun.topDef (OpenLaw.row PySem.Challenge.rw_pactwork_k42_remedies_and_strikes).prog 76) (kwd := []) Pv.K42.ob_eq
    (by kernel_rfl) (fun s => by kernel_rfl) Pv.K42.run (by kernel_rfl) (by kernel_rfl) (by kernel_rfl) (by rfl) (by first | assumption | decide +kernel) (by decide +kernel) ⟨rfl, rfl, rfl, rfl, rfl, by decide +kernel⟩ ?hw ?hc
  case hw => w_witness2
  case hc =>
    refine L2.walk_ofE (l := PySem.Challenge.rw_pactwork_k42_remedies_and_strikes) (n := 63) (k := 13 + 2) (x := "script") (CX := L2.CX0) rfl (by decide) (by kernel_rfl) ⟨rfl, by decide, by decide⟩ ?F (fun _ _ _ _ z => z)
    intro w mg fa h Y G hmg0
    obtain ⟨K, KX, no, c⟩ := Y
    have hmg : mg ("law" : PySem.Str) = some (.ref fa) := by
      have e : (HandSHeadRun.topDef (OpenLaw.row PySem.Challenge.rw_pactwork_k42_remedies_and_strikes).prog 76).name = ("law" : PySem.Str) := by kernel_rfl
      rw [← e]
      exact hmg0
    have hf : Pv.K42.G.fns[55]? = some (Pv.K42.G.fns[55]'(by decide +kernel)) := List.getElem?_eq_getElem _
    have hn : (Pv.K42.G.fns[55]'(by decide +kernel)).name = ("law" : PySem.Str) := by kernel_rfl
    have hp : (Pv.K42.G.fns[55]'(by decide +kernel)).ps = [("script" : PySem.Str)] := by kernel_rfl
    exact Pv.Prg.walk (p := Pv.K42.P) Pv.K42.okP (wn := Pv.K42.WN) (fu := Pv.K42.FU) (k := 13) (n := 63) hf hp Pv.K42.law_ok KX no c G (by rw [hn]; exact hmg)
