import PyProof.Rows.All
import Wide.All
import OpenK.AllK
import Wide.FinOn
import HandS.ForMost
import HandS.Exc
import HandS.ExcOwn
import HandS.IsInst
import HandS.TupAny
import HandS.Flow
import HandS.Deep
import HandS.Wide
import HandS.Conv
import HandS.Lambda
import KE.LtData
import HandS.SortRule
import HandS.RaiseMore
import HandS.WordsDict
import HandS.More
import HandS.Comp
import HandS.NoneIn
import HandS.Iter
import HandS.Zip
import HandS.ExcInit
import HandS.Style
import HandS.HeadHook4
import HandS.TryMany
import HandS.ExcField
import HandS.HeadWalk
import HandS.NestedK
import HandS.Words
import PySem.Challenge.RW_everypath_k74_whole_plain_forms
import KE.KStateDown
import HandS.Head0
import HandS.Head1
import HandS.Head2
import HandS.HeadEnd
set_option Elab.async false
set_option linter.all false
set_option maxRecDepth 100000
set_option maxHeartbeats 4000000
/-! PD1: pure values, the abstract heap, the relation to the hand layer. -/
namespace PD
open PySem PySem.Spec PyProof.Rows L2

/-- a value: tuples inline, mutable objects by number; ro: a list that is never written, inline -/
inductive D where
  | non | bl (b : Bool) | int (i : Int) | str (x : Str) | tup (xs : List D) | ro (xs : List D) | ref (n : Nat) | ty (n : String)
/-- a mutable object -/
inductive DO where
  | lst (xs : List D)
  | dic (kvs : List (Key × D))
  | fdic (kvs : List (Key × D))
abbrev G := List DO
abbrev Sl := List (Option D)
abbrev Fs := List (Str × D)
inductive R (β : Type) where
  | ok (a : β) (g : G) | ex (c : Str) (fs : Fs) (g : G) | bad
def R.bind {β γ : Type} (r : R β) (f : β → G → R γ) : R γ := match r with
  | .ok a g => f a g
  | .ex c fs g => .ex c fs g
  | .bad => .bad
def R.sat {β : Type} (r : R β) (Q : β → G → Prop) (E : Str → Fs → G → Prop) : Prop := match r with
  | .ok a g => Q a g
  | .ex c fs g => E c fs g
  | .bad => False
theorem R.sat_bind {β γ : Type} {r : R β} {f : β → G → R γ} {Q : γ → G → Prop} {E : Str → Fs → G → Prop} : (r.bind f).sat Q E ↔ r.sat (fun a g => (f a g).sat Q E) E := by
  cases r <;> exact Iff.rfl
theorem R.sat_mono {β : Type} {r : R β} {Q Q' : β → G → Prop} {E E' : Str → Fs → G → Prop} (h : r.sat Q E) (hQ : ∀ a g, Q a g → Q' a g) (hE : ∀ c fs g, E c fs g → E' c fs g) : r.sat Q' E' := by
  cases r with
  | ok a g => exact hQ a g h
  | ex c fs g => exact hE c fs g h
  | bad => exact h

/-! ### the relation -/
/-- what never changes once it stands -/
def Stb : HO → Prop
  | .tup _ => True
  | .frz _ _ => True
  | .xd _ => True
  | _ => False
/-- a list that is never written -/
def SqR (K : PySem.W.Frag) (H : Hp) (a : Addr) (xs : List V) : Prop :=
  (∃ o, H a = some (.frz o (.lst xs))) ∨
    ∃ (o : Obj) (its : Array Value) (n : Nat), K.lookup a = some o ∧ o.cls = .type "list" ∧ o.dict = none ∧ o.data = .seq its n ∧ its.size ≤ sizeLine ∧ Vals xs its.toList
theorem SqR.sq {K : PySem.W.Frag} {H : Hp} {a : Addr} {xs : List V} (h : SqR K H a xs) : SqL K H a xs := by
  rcases h with ⟨o, h⟩ | h
  · exact .inl (.inr ⟨o, h⟩)
  · exact .inr h
/-- a tuple (tracked, or of the module) -/
def SqU (K : PySem.W.Frag) (H : Hp) (a : Addr) (xs : List V) : Prop :=
  H a = some (.tup xs) ∨
    ∃ (o : Obj) (its : Array Value) (n : Nat), K.lookup a = some o ∧ o.cls = .type "tuple" ∧ o.data = .seq its n ∧ its.size ≤ sizeLine ∧ Vals xs its.toList
theorem SqU.sq {K : PySem.W.Frag} {H : Hp} {a : Addr} {xs : List V} (h : SqU K H a xs) : SqT K H a xs := by
  rcases h with h | h
  · exact .inl (.inl h)
  · exact .inr h
mutual
inductive Rp (K : PySem.W.Frag) (A : List Addr) (H : Hp) : D → V → Prop
  | non : Rp K A H .non .non
  | bl (b : Bool) : Rp K A H (.bl b) (.bl b)
  | int (i : Int) : Rp K A H (.int i) (.int i)
  | str (x : Str) : Rp K A H (.str x) (.str x)
  | ty (n : String) : Rp K A H (.ty n) (.ty n)
  | tup {a : Addr} {vs : List V} {ds : List D} : SqU K H a vs → RpL K A H ds vs → Rp K A H (.tup ds) (.ref a)
  | ro {a : Addr} {vs : List V} {ds : List D} : SqR K H a vs → RpL K A H ds vs → Rp K A H (.ro ds) (.ref a)
  | ref {n : Nat} {a : Addr} : A[n]? = some a → Rp K A H (.ref n) (.ref a)
inductive RpL (K : PySem.W.Frag) (A : List Addr) (H : Hp) : List D → List V → Prop
  | nil : RpL K A H [] []
  | cons {d : D} {v : V} {ds : List D} {vs : List V} : Rp K A H d v → RpL K A H ds vs → RpL K A H (d :: ds) (v :: vs)
end
/-- the tables of code objects that are known -/
class Tb where
  t : List (Addr × Str)
variable [Tb]
/-- the state may go on: addresses behind, stable objects kept -/
structure Nx (A : List Addr) (H : Hp) (A' : List Addr) (H' : Hp) : Prop where
  pre : ∃ B, A' = A ++ B
  keep : ∀ b o, Stb o → H b = some o → H' b = some o
  tab : LamX.Tabs Tb.t H → LamX.Tabs Tb.t H'
theorem Nx.refl (A : List Addr) (H : Hp) : Nx A H A H := ⟨⟨[], by simp⟩, fun _ _ _ h => h, fun h => h⟩
theorem Nx.trans {A A1 A2 : List Addr} {H H1 H2 : Hp} (a : Nx A H A1 H1) (b : Nx A1 H1 A2 H2) : Nx A H A2 H2 := by
  obtain ⟨B, rfl⟩ := a.pre
  obtain ⟨C, rfl⟩ := b.pre
  exact ⟨⟨B ++ C, by simp⟩, fun c o s h => b.keep c o s (a.keep c o s h), fun h => b.tab (a.tab h)⟩
theorem Nx.at {A A' : List Addr} {H H' : Hp} (x : Nx A H A' H') {n : Nat} {a : Addr} (h : A[n]? = some a) : A'[n]? = some a := by
  obtain ⟨B, rfl⟩ := x.pre
  have hl := (List.getElem?_eq_some_iff.mp h).1
  rw [List.getElem?_append_left hl]; exact h
theorem SqU.nx {K : PySem.W.Frag} {A A' : List Addr} {H H' : Hp} (x : Nx A H A' H') {a : Addr} {xs : List V} (h : SqU K H a xs) : SqU K H' a xs := by
  rcases h with h | h
  · exact .inl (x.keep _ _ trivial h)
  · exact .inr h
theorem SqR.nx {K : PySem.W.Frag} {A A' : List Addr} {H H' : Hp} (x : Nx A H A' H') {a : Addr} {xs : List V} (h : SqR K H a xs) : SqR K H' a xs := by
  rcases h with ⟨o, h⟩ | h
  · exact .inl ⟨o, x.keep _ _ trivial h⟩
  · exact .inr h
section
variable {K : PySem.W.Frag} {A A' : List Addr} {H H' : Hp}
mutual
theorem Rp.nx (x : Nx A H A' H') : ∀ {d : D} {v : V}, Rp K A H d v → Rp K A' H' d v
  | _, _, .non => .non
  | _, _, .bl b => .bl b
  | _, _, .int i => .int i
  | _, _, .str s => .str s
  | _, _, .ty n => .ty n
  | _, _, .tup h r => .tup (SqU.nx x h) (RpL.nx x r)
  | _, _, .ro h r => .ro (SqR.nx x h) (RpL.nx x r)
  | _, _, .ref h => .ref (x.at h)
theorem RpL.nx (x : Nx A H A' H') : ∀ {ds : List D} {vs : List V}, RpL K A H ds vs → RpL K A' H' ds vs
  | _, _, .nil => .nil
  | _, _, .cons h r => .cons (Rp.nx x h) (RpL.nx x r)
end
theorem RpL.len : ∀ {ds : List D} {vs : List V}, RpL K A H ds vs → ds.length = vs.length
  | _, _, .nil => rfl
  | _, _, .cons _ r => congrArg (· + 1) (RpL.len r)
theorem RpL.get : ∀ {ds : List D} {vs : List V} {i : Nat} {d : D}, RpL K A H ds vs → ds[i]? = some d → ∃ v, vs[i]? = some v ∧ Rp K A H d v
  | _, _, _, _, .nil, e => by simp at e
  | _, _, 0, _, .cons h _, e => by simp at e; subst e; exact ⟨_, rfl, h⟩
  | _, _, i + 1, d, .cons _ r, e => by
    obtain ⟨v, h1, h2⟩ := RpL.get (i := i) (d := d) r (by simpa using e)
    exact ⟨v, by simpa using h1, h2⟩
theorem RpL.get' : ∀ {ds : List D} {vs : List V} {i : Nat} {v : V}, RpL K A H ds vs → vs[i]? = some v → ∃ d, ds[i]? = some d ∧ Rp K A H d v
  | _, _, _, _, .nil, e => by simp at e
  | _, _, 0, _, .cons h _, e => by simp at e; subst e; exact ⟨_, rfl, h⟩
  | _, _, i + 1, d, .cons _ r, e => by
    obtain ⟨v, h1, h2⟩ := RpL.get' (i := i) (v := d) r (by simpa using e)
    exact ⟨v, by simpa using h1, h2⟩
theorem RpL.append : ∀ {ds es : List D} {vs us : List V}, RpL K A H ds vs → RpL K A H es us → RpL K A H (ds ++ es) (vs ++ us)
  | _, _, _, _, .nil, r => r
  | _, _, _, _, .cons h t, r => .cons h (RpL.append t r)
theorem RpL.drop : ∀ {ds : List D} {vs : List V} (n : Nat), RpL K A H ds vs → RpL K A H (ds.drop n) (vs.drop n)
  | _, _, 0, r => r
  | _, _, _ + 1, .nil => .nil
  | _, _, n + 1, .cons _ t => RpL.drop n t
theorem RpL.take : ∀ {ds : List D} {vs : List V} (n : Nat), RpL K A H ds vs → RpL K A H (ds.take n) (vs.take n)
  | _, _, 0, _ => .nil
  | _, _, _ + 1, .nil => .nil
  | _, _, n + 1, .cons h t => .cons h (RpL.take n t)
theorem RpL.set {d : D} {v : V} (h : Rp K A H d v) : ∀ {ds : List D} {vs : List V} (i : Nat), RpL K A H ds vs → RpL K A H (ds.set i d) (vs.set i v)
  | _, _, _, .nil => .nil
  | _, _, 0, .cons _ t => .cons h t
  | _, _, i + 1, .cons q t => .cons q (RpL.set h i t)
theorem RpL.rev : ∀ {ds : List D} {vs : List V}, RpL K A H ds vs → RpL K A H ds.reverse vs.reverse
  | _, _, .nil => .nil
  | _, _, .cons h t => by rw [List.reverse_cons, List.reverse_cons]; exact RpL.append (RpL.rev t) (.cons h .nil)
theorem RpL.ints : ∀ ns : List Int, RpL K A H (ns.map D.int) (ns.map V.int)
  | [] => .nil
  | n :: r => .cons (.int n) (RpL.ints r)
theorem RpL.strs : ∀ ns : List Str, RpL K A H (ns.map D.str) (ns.map V.str)
  | [] => .nil
  | n :: r => .cons (.str n) (RpL.strs r)
end
/-- a field list, a dict -/
abbrev RpF (K : PySem.W.Frag) (A : List Addr) (H : Hp) {κ : Type} : List (κ × D) → List (κ × V) → Prop := Paired fun p q => p.1 = q.1 ∧ Rp K A H p.2 q.2
theorem RpF.nx {K : PySem.W.Frag} {A A' : List Addr} {H H' : Hp} {κ : Type} (x : Nx A H A' H') {ds : List (κ × D)} {vs : List (κ × V)} (r : RpF K A H ds vs) : RpF K A' H' ds vs := L2.Paired.mapP r fun _ _ h => ⟨h.1, Rp.nx x h.2⟩
/-- what stands at an address -/
def OR (K : PySem.W.Frag) (A : List Addr) (H : Hp) (a : Addr) : DO → Prop
  | .lst ds => ∃ vs, H a = some (.lst vs) ∧ RpL K A H ds vs
  | .dic kvs => ∃ ws, H a = some (.dK ws) ∧ RpF K A H kvs ws
  | .fdic kvs => ∃ o ws, H a = some (.frz o (.dK ws)) ∧ RpF K A H kvs ws
structure Rel (K : PySem.W.Frag) (A : List Addr) (g : G) (H : Hp) : Prop where
  len : A.length = g.length
  nd : A.Nodup
  obj : ∀ (n : Nat) (o : DO) (a : Addr), g[n]? = some o → A[n]? = some a → OR K A H a o
  tabs : LamX.Tabs Tb.t H
theorem tab_but {H H' : Hp} {a : Addr} {u : HO} (ha : H a = some u) (h1 : ∀ ps, u ≠ .tbl ps) (h2 : ∀ φ, u ≠ .ext φ) (k : ∀ b o, b ≠ a → H b = some o → H' b = some o) (P : Addr) (q : Str) (t : LamX.TabS H P q) : LamX.TabS H' P q := by
  obtain ⟨ps, e, ok, all⟩ := t
  have nP : P ≠ a := fun z => by rw [z, ha] at e; exact h1 ps (Option.some.inj e)
  refine ⟨ps, k P _ nP e, ok, fun pos cv hc => ?_⟩
  obtain ⟨c, ec, hco⟩ := all pos cv hc
  refine ⟨c, ec, k c _ (fun z => ?_) hco⟩
  rw [z, ha] at hco
  exact h2 _ (Option.some.inj hco)
section
variable {K : PySem.W.Frag} {A A' : List Addr} {H H' : Hp} {g g' : G}
theorem OR.some {a : Addr} {o : DO} (h : OR K A H a o) : ∃ u, H a = some u ∧ ((∀ kvs, o ≠ .fdic kvs) → ¬ Stb u) := by
  cases o with
  | lst ds => obtain ⟨vs, e, _⟩ := h; exact ⟨_, e, fun _ z => z⟩
  | dic kvs => obtain ⟨ws, e, _⟩ := h; exact ⟨_, e, fun _ z => z⟩
  | fdic kvs => obtain ⟨o, ws, e, _⟩ := h; exact ⟨_, e, fun z => absurd rfl (z kvs)⟩
theorem OR.mu {a : Addr} {o : DO} (h : OR K A H a o) : ∃ u, H a = Option.some u ∧ (∀ ps, u ≠ .tbl ps) ∧ ∀ φ, u ≠ .ext φ := by
  cases o with
  | lst ds => obtain ⟨vs, e, _⟩ := h; exact ⟨_, e, (fun _ z => nomatch z), fun _ z => nomatch z⟩
  | dic kvs => obtain ⟨ws, e, _⟩ := h; exact ⟨_, e, (fun _ z => nomatch z), fun _ z => nomatch z⟩
  | fdic kvs => obtain ⟨o, ws, e, _⟩ := h; exact ⟨_, e, (fun _ z => nomatch z), fun _ z => nomatch z⟩
theorem OR.nx {a : Addr} {o : DO} (x : Nx A H A' H') (e : H' a = H a) (h : OR K A H a o) : OR K A' H' a o := by
  cases o with
  | lst ds => obtain ⟨vs, q, r⟩ := h; exact ⟨vs, e.trans q, RpL.nx x r⟩
  | dic kvs => obtain ⟨ws, q, r⟩ := h; exact ⟨ws, e.trans q, RpF.nx x r⟩
  | fdic kvs => obtain ⟨o, ws, q, r⟩ := h; exact ⟨o, ws, e.trans q, RpF.nx x r⟩
theorem Rel.addr (r : Rel K A g H) {n : Nat} {o : DO} (h : g[n]? = some o) : ∃ a, A[n]? = some a ∧ OR K A H a o := by
  have hl := (List.getElem?_eq_some_iff.mp h).1
  have hA : n < A.length := by rw [r.len]; exact hl
  exact ⟨A[n], List.getElem?_eq_getElem hA, r.obj n o _ h (List.getElem?_eq_getElem hA)⟩
theorem Rel.fresh (r : Rel K A g H) {p : Addr} (hp : H p = none) : p ∉ A := fun hm => by
  obtain ⟨n, hn, e⟩ := List.mem_iff_getElem.mp hm
  have hg : n < g.length := by rw [← r.len]; exact hn
  obtain ⟨u, q, _⟩ := (r.obj n g[n] p (List.getElem?_eq_getElem hg) (by rw [List.getElem?_eq_getElem hn, e])).some
  rw [hp] at q; cases q
/-- nothing of the mutable objects changes -/
theorem Rel.same (r : Rel K A g H) (k : ∀ b o, H b = some o → H' b = some o) : Rel K A g H' ∧ Nx A H A H' := by
  have x : Nx A H A H' := ⟨⟨[], by simp⟩, fun b o _ h => k b o h, fun t => t.ext k⟩
  refine ⟨⟨r.len, r.nd, fun n o a h1 h2 => ?_, x.tab r.tabs⟩, x⟩
  have q := r.obj n o a h1 h2
  obtain ⟨u, e, _⟩ := q.some
  exact q.nx x (by rw [k _ _ e, e])
theorem Rel.fr (r : Rel K A g H) {p : Addr} (hp : H p = none) (o : HO) : Rel K A g (upd H p o) ∧ Nx A H A (upd H p o) :=
  r.same fun b u e => by rw [upd_ne (ne_of_none e hp)]; exact e
/-- only tables change -/
theorem Rel.ext (r : Rel K A g H) (k : LamX.ExtN H H') (t : LamX.Tabs Tb.t H') : Rel K A g H' ∧ Nx A H A H' := by
  have x : Nx A H A H' := ⟨⟨[], by simp⟩, fun b o s h => k b o h fun ps z => by rw [z] at s; exact s, fun _ => t⟩
  refine ⟨⟨r.len, r.nd, fun n o a h1 h2 => ?_, t⟩, x⟩
  have q := r.obj n o a h1 h2
  obtain ⟨u, e, n1, _⟩ := q.mu
  exact q.nx x (by rw [k _ _ e n1, e])
/-- a new mutable object -/
theorem Rel.alloc (r : Rel K A g H) {p : Addr} (hp : H p = none) {o : DO} {u : HO} (ho : ∀ A' H', Nx A H A' H' → H' p = some u → OR K A' H' p o) : Rel K (A ++ [p]) (g ++ [o]) (upd H p u) ∧ Nx A H (A ++ [p]) (upd H p u) ∧ (A ++ [p])[g.length]? = some p := by
  have x : Nx A H (A ++ [p]) (upd H p u) := ⟨⟨[p], rfl⟩, fun b o' _ h => by rw [upd_ne (ne_of_none h hp)]; exact h, fun t => t.ext fun b o' h => by rw [upd_ne (ne_of_none h hp)]; exact h⟩
  refine ⟨⟨by simp [r.len], ?_, fun n o' a h1 h2 => ?_, x.tab r.tabs⟩, x, ?_⟩
  · rw [List.nodup_append]
    refine ⟨r.nd, by simp, fun a ha b hb => ?_⟩
    have e : b = p := by simpa using hb
    subst e
    intro z
    subst z
    exact r.fresh hp ha
  · by_cases hn : n < g.length
    · rw [List.getElem?_append_left hn] at h1
      rw [List.getElem?_append_left (by rw [r.len]; exact hn)] at h2
      have q := r.obj n o' a h1 h2
      obtain ⟨w, e, _⟩ := q.some
      exact q.nx x (upd_ne (ne_of_none e hp))
    · have e : n = g.length := by
        have := (List.getElem?_eq_some_iff.mp h1).1
        simp at this; omega
      subst e
      rw [List.getElem?_append_right (Nat.le_refl _)] at h1
      have z : o = o' := by simpa using h1
      subst z
      rw [← r.len, List.getElem?_append_right (Nat.le_refl _)] at h2
      have z2 : p = a := by simpa using h2
      subst z2
      exact ho _ _ x upd_same
  · rw [← r.len, List.getElem?_append_right (Nat.le_refl _)]; simp
/-- a mutable object changed -/
theorem Rel.write (r : Rel K A g H) {n : Nat} {a : Addr} {o : DO} {u : HO} (hn : A[n]? = some a) (hm : ∀ kvs, g[n]? ≠ some (.fdic kvs)) (ho : ∀ A' H', Nx A H A' H' → H' a = some u → OR K A' H' a o) : Rel K A (g.set n o) (upd H a u) ∧ Nx A H A (upd H a u) := by
  have hA := (List.getElem?_eq_some_iff.mp hn).1
  have hg : n < g.length := by rw [← r.len]; exact hA
  have x : Nx A H A (upd H a u) := ⟨⟨[], by simp⟩, fun b o' s h => by
    obtain ⟨w, e, ns⟩ := (r.obj n _ a (List.getElem?_eq_getElem hg) hn).some
    rw [upd_ne (fun z => by subst z; rw [e] at h; cases h; exact ns (fun kvs z => hm kvs (by rw [List.getElem?_eq_getElem hg, z])) s)]; exact h, by
      obtain ⟨w, e, n1, n2⟩ := (r.obj n _ a (List.getElem?_eq_getElem hg) hn).mu
      exact fun t p hp => tab_but e n1 n2 (fun b o nb h => by rw [upd_ne nb]; exact h) _ _ (t p hp)⟩
  refine ⟨⟨by simp [r.len], r.nd, fun m o' b h1 h2 => ?_, x.tab r.tabs⟩, x⟩
  by_cases hm : m = n
  · subst hm
    rw [List.getElem?_set_self hg] at h1
    cases h1
    rw [hn] at h2; cases h2
    exact ho _ _ x upd_same
  · rw [List.getElem?_set_ne (Ne.symm hm)] at h1
    have nb : b ≠ a := fun z => by
      subst z
      exact hm ((List.getElem_inj r.nd).mp ((List.getElem?_eq_some_iff.mp h2).2.trans (List.getElem?_eq_some_iff.mp hn).2.symm))
    exact (r.obj m o' b h1 h2).nx x (upd_ne nb)
/-- a dict is frozen -/
theorem Rel.freeze (r : Rel K A g H) {n : Nat} {a : Addr} {kvs : List (Key × D)} {ws : List (Key × V)} (o : Obj) (hn : A[n]? = some a) (en : g[n]? = some (.dic kvs)) (ha : H a = some (.dK ws)) (hr : RpF K A H kvs ws) : Rel K A (g.set n (.fdic kvs)) (upd H a (.frz o (.dK ws))) ∧ Nx A H A (upd H a (.frz o (.dK ws))) :=
  r.write (o := .fdic kvs) hn (fun z e => by rw [en] at e; cases e) fun A' H' x e => ⟨o, ws, e, RpF.nx x hr⟩
end
/-- the slots -/
structure LcR (K : PySem.W.Frag) (A : List Addr) (H : Hp) (δ : Sl) (σ : L2.St) : Prop where
  len : δ.length = σ.length
  get : ∀ (i : Nat) (d : D), δ[i]? = some (some d) → ∃ v, σ[i]? = some (some v) ∧ Rp K A H d v
section
variable {K : PySem.W.Frag} {A A' : List Addr} {H H' : Hp} {δ : Sl} {σ : L2.St}
theorem LcR.nx (x : Nx A H A' H') (r : LcR K A H δ σ) : LcR K A' H' δ σ := ⟨r.len, fun i d e => let ⟨v, h1, h2⟩ := r.get i d e; ⟨v, h1, h2.nx x⟩⟩
theorem LcR.set (r : LcR K A H δ σ) {i : Nat} {d : D} {v : V} (h : Rp K A H d v) : LcR K A H (δ.set i (some d)) (σ.set i (some v)) := by
  refine ⟨by simp [r.len], fun j d' e => ?_⟩
  by_cases hj : j = i
  · subst hj
    have hl : j < δ.length := by
      have := (List.getElem?_eq_some_iff.mp e).1
      simpa using this
    rw [List.getElem?_set_self hl] at e
    cases e
    exact ⟨v, List.getElem?_set_self (by rw [← r.len]; exact hl), h⟩
  · rw [List.getElem?_set_ne (Ne.symm hj)] at e ⊢
    exact r.get j d' e
theorem LcR.unset (r : LcR K A H δ σ) {i : Nat} (o : Option V) : LcR K A H (δ.set i none) (σ.set i o) := by
  refine ⟨by simp [r.len], fun j d' e => ?_⟩
  by_cases hj : j = i
  · subst hj
    have hl : j < δ.length := by
      have := (List.getElem?_eq_some_iff.mp e).1
      simpa using this
    rw [List.getElem?_set_self hl] at e
    cases e
  · rw [List.getElem?_set_ne (Ne.symm hj)] at e ⊢
    exact r.get j d' e
end
end PD
set_option Elab.async false
set_option linter.all false
set_option maxRecDepth 100000
set_option maxHeartbeats 4000000
/-! PD2: operations on pure values, and that the machine's keep to them. -/
namespace PD
open PySem PySem.Spec PyProof.Rows L2
variable [Tb]

/-! ### what is wanted behind -/
abbrev GoD (K : PySem.W.Frag) (A : List Addr) (H : Hp) (Q : VK) : D → G → Prop := fun d g' => ∀ A' H' v', Nx A H A' H' → Rel K A' g' H' → Rp K A' H' d v' → Q v' H'
abbrev NoE : Str → Fs → G → Prop := fun _ _ _ => False
def r2 (K : PySem.W.Frag) (h : D → D → G → R D) : R2 := fun v u H Q => ∃ A g x y, Rel K A g H ∧ Rp K A H x v ∧ Rp K A H y u ∧ (h x y g).sat (GoD K A H Q) NoE
def r1 (K : PySem.W.Frag) (h : D → G → R D) : V → Hp → VK → Prop := fun v H Q => ∃ A g x, Rel K A g H ∧ Rp K A H x v ∧ (h x g).sat (GoD K A H Q) NoE
def rC (K : PySem.W.Frag) (h : List D → G → R D) : List V → Hp → VK → Prop := fun vs H Q => ∃ A g xs, Rel K A g H ∧ RpL K A H xs vs ∧ (h xs g).sat (GoD K A H Q) NoE

/-! ### deep data -/
def allP (f : D → Option PyData) : List D → Option (List PyData)
  | [] => some []
  | d :: ds => match f d, allP f ds with
    | some x, some xs => some (x :: xs)
    | _, _ => none
def toP (g : G) : Nat → D → Option PyData
  | 0, _ => none
  | k + 1, d => match d with
    | .non => some .none
    | .bl b => some (.bool b)
    | .int i => some (.int i)
    | .str x => some (.str x)
    | .tup ds => (allP (toP g k) ds).map .tuple
    | .ro ds => (allP (toP g k) ds).map .list
    | .ref n => (match g[n]? with
      | some (.lst ds) => (allP (toP g k) ds).map .list
      | _ => none)
    | .ty _ => none
section
variable {K : PySem.W.Frag} {A : List Addr} {H : Hp} {g : G}
theorem allP_ok {f : D → Option PyData} (ih : ∀ d v x, Rp K A H d v → f d = some x → Dp K H v x) : ∀ {ds : List D} {vs : List V} {xs : List PyData}, RpL K A H ds vs → allP f ds = some xs → DpAll K H vs xs
  | [], _, _, .nil, e => by cases e; exact .nil
  | d :: ds, _, xs, .cons h t, e => by
    unfold allP at e
    split at e
    · rename_i x ys e1 e2
      cases e
      exact .cons (ih _ _ _ h e1) (allP_ok ih t e2)
    · cases e
theorem toP_ok (r : Rel K A g H) : ∀ (k : Nat) (d : D) (v : V) (x : PyData), Rp K A H d v → toP g k d = some x → Dp K H v x
  | 0, _, _, _, _, e => by cases e
  | k + 1, d, v, x, h, e => by
    cases h with
    | non => cases e; exact .non
    | bl b => cases e; exact .bl b
    | int i => cases e; exact .int i
    | str s => cases e; exact .str s
    | ty n => cases e
    | @tup a vs ds hq hr =>
      have e' : (allP (toP g k) ds).map PyData.tuple = some x := e
      cases q : allP (toP g k) ds with
      | none => rw [q] at e'; cases e'
      | some ys =>
        rw [q] at e'; cases e'
        exact .tup hq.sq (allP_ok (toP_ok r k) hr q)
    | @ro a vs ds hq hr =>
      have e' : (allP (toP g k) ds).map PyData.list = some x := e
      cases q : allP (toP g k) ds with
      | none => rw [q] at e'; cases e'
      | some ys =>
        rw [q] at e'; cases e'
        exact .lst hq.sq (allP_ok (toP_ok r k) hr q)
    | @ref n a ha =>
      have e' : (match g[n]? with
        | some (.lst ds) => (allP (toP g k) ds).map PyData.list
        | _ => none) = some x := e
      cases q : g[n]? with
      | none => rw [q] at e'; cases e'
      | some o =>
        rw [q] at e'
        cases o with
        | dic kvs => cases e'
        | fdic kvs => cases e'
        | lst ds =>
          have e2 : (allP (toP g k) ds).map PyData.list = some x := e'
          obtain ⟨vs, hv, hr⟩ := r.obj n _ a q ha
          cases q2 : allP (toP g k) ds with
          | none => rw [q2] at e2; cases e2
          | some ys =>
            rw [q2] at e2; cases e2
            exact .lst (.of hv) (allP_ok (toP_ok r k) hr q2)
end
/-- x == y -/
def dEq (x y : D) (g : G) : Option Bool := match toP g 70 x, toP g 70 y with
  | some a, some b => if SeqAt.shaped a && SeqAt.shaped b then some (PyData.eqv a b) else none
  | _, _ => none
def ofB : Option Bool → G → R D
  | some b, g => .ok (.bl b) g
  | none, _ => .bad
theorem dEq_ok {K : PySem.W.Frag} {A : List Addr} {H : Hp} {g : G} (r : Rel K A g H) {x y : D} {v u : V} {b : Bool} (hx : Rp K A H x v) (hy : Rp K A H y u) (e : dEq x y g = some b) :
    ∃ d d', Dp K H v d ∧ Dp K H u d' ∧ SeqAt.shaped d = true ∧ SeqAt.shaped d' = true ∧ PyData.eqv d d' = b := by
  unfold dEq at e
  split at e
  · rename_i a c e1 e2
    split at e
    · rename_i hs
      obtain ⟨h1, h2⟩ := Bool.and_eq_true_iff.mp hs
      cases e
      exact ⟨a, c, toP_ok r _ _ _ _ hx e1, toP_ok r _ _ _ _ hy e2, h1, h2, rfl⟩
    · cases e
  · cases e

section
variable {X : Cx}
theorem ofB_sat {K : PySem.W.Frag} {A : List Addr} {H : Hp} {g : G} {Q : VK} {o : Option Bool} (h : (ofB o g).sat (GoD K A H Q) NoE) (r : Rel K A g H) : ∃ b, o = some b ∧ Q (.bl b) H := by
  cases o with
  | none => exact absurd h id
  | some b => exact ⟨b, rfl, h A H (.bl b) (Nx.refl _ _) r (.bl b)⟩
theorem op_eqP (hu : X.A.units + 64 < cLine) : OpR X (compareOp .Eq) (r2 X.K fun x y g => ofB (dEq x y g) g) := by
  intro pins s σ H v u vv uu Q I rv ru h
  obtain ⟨A, g, x, y, r, hx, hy, h⟩ := h
  obtain ⟨b, e, q⟩ := ofB_sat h r
  obtain ⟨d, d', h1, h2, h3, h4, h5⟩ := dEq_ok r hx hy e
  exact op_eqD hu pins s σ H v u vv uu Q I rv ru ⟨d, d', h1, h2, h3, h4, by rw [h5]; exact q⟩
theorem op_neP (hu : X.A.units + 64 < cLine) : OpR X (compareOp .NotEq) (r2 X.K fun x y g => ofB ((dEq x y g).map (!·)) g) := by
  intro pins s σ H v u vv uu Q I rv ru h
  obtain ⟨A, g, x, y, r, hx, hy, h⟩ := h
  obtain ⟨b, e, q⟩ := ofB_sat h r
  cases e2 : dEq x y g with
  | none => rw [e2] at e; cases e
  | some c =>
    rw [e2] at e
    have e3 : (!c) = b := Option.some.inj e
    obtain ⟨d, d', h1, h2, h3, h4, h5⟩ := dEq_ok r hx hy e2
    exact op_neD hu pins s σ H v u vv uu Q I rv ru ⟨d, d', h1, h2, h3, h4, by rw [h5, e3]; exact q⟩

/-! ### arithmetic -/
def mulOk (i j : Int) : Bool := decide (i.natAbs < 2 ^ 64) || decide (j.natAbs < 2 ^ 64) || decide (i.natAbs.log2 + j.natAbs.log2 < 1000000)
def divOk (j : Int) : Bool := decide (0 < j) && decide (j.natAbs.log2 < 9000)
def powOk (i j : Int) : Bool := decide (0 ≤ j) && decide (j ≤ 1000000) && decide (i.natAbs < 2 ^ 64)
def dAdd (x y : D) (g : G) : R D := match x, y with
  | .int i, .int j => .ok (.int (i + j)) g
  | .str a, .str b => if a.length + b.length ≤ sizeLine then .ok (.str (a ++ b)) g else .bad
  | .tup xs, .tup ys => if xs.length + ys.length ≤ sizeLine then .ok (.tup (xs ++ ys)) g else .bad
  | .ref n, .ref m => (match g[n]?, g[m]? with
    | some (.lst xs), some (.lst ys) => if xs.length + ys.length ≤ sizeLine then .ok (.ref g.length) (g ++ [.lst (xs ++ ys)]) else .bad
    | _, _ => .bad)
  | _, _ => .bad
def dSub (x y : D) (g : G) : R D := match x, y with
  | .int i, .int j => .ok (.int (i - j)) g
  | _, _ => .bad
def dMul (x y : D) (g : G) : R D := match x, y with
  | .int i, .int j => if mulOk i j then .ok (.int (i * j)) g else .bad
  | _, _ => .bad
def dDiv (x y : D) (g : G) : R D := match x, y with
  | .int i, .int j => if divOk j then .ok (.int (i / j)) g else .bad
  | _, _ => .bad
def dMod (x y : D) (g : G) : R D := match x, y with
  | .int i, .int j => if decide (0 < j) then .ok (.int (i % j)) g else .bad
  | _, _ => .bad
def dPow (x y : D) (g : G) : R D := match x, y with
  | .int i, .int j => if powOk i j then .ok (.int (i ^ j.toNat)) g else .bad
  | _, _ => .bad
def binD : Operator → D → D → G → R D
  | .Add => dAdd
  | .Sub => dSub
  | .Mult => dMul
  | .FloorDiv => dDiv
  | .Mod => dMod
  | .Pow => dPow
  | _ => fun _ _ _ => .bad
theorem mulOk_c {i j : Int} (h : mulOk i j = true) : CMul i j ∨ CMulW i j := by
  unfold mulOk at h
  rw [Bool.or_eq_true, Bool.or_eq_true, decide_eq_true_iff, decide_eq_true_iff, decide_eq_true_iff] at h
  rcases h with (h | h) | h
  · exact .inl (.inl (by omega))
  · exact .inl (.inr (by omega))
  · exact .inr h
theorem op_catL {K : PySem.W.Frag} {A : List Addr} {H : Hp} {g : G} (r : Rel K A g H) {n : Nat} {ds : List D} (e : g[n]? = some (.lst ds)) {a : Addr} (ha : A[n]? = some a) : ∃ vs, H a = some (.lst vs) ∧ RpL K A H ds vs := r.obj n _ a e ha
/-- a new list -/
theorem new_lst {K : PySem.W.Frag} {A : List Addr} {H : Hp} {g : G} {Q : VK} {ds : List D} {vs : List V} (r : Rel K A g H) (h : RpL K A H ds vs) (q : GoD K A H Q (.ref g.length) (g ++ [.lst ds])) : ∀ p, H p = none → Q (.ref p) (upd H p (.lst vs)) := fun p hp => by
  obtain ⟨r1, x1, e1⟩ := r.alloc (o := .lst ds) (u := .lst vs) hp (fun A' H' x e => ⟨vs, e, RpL.nx x h⟩)
  exact q _ _ _ x1 r1 (.ref e1)
theorem new_tup {K : PySem.W.Frag} {A : List Addr} {H : Hp} {g : G} {Q : VK} {ds : List D} {vs : List V} (r : Rel K A g H) (h : RpL K A H ds vs) (q : GoD K A H Q (.tup ds) g) : ∀ p, H p = none → Q (.ref p) (upd H p (.tup vs)) := fun p hp => by
  obtain ⟨r1, x1⟩ := r.fr hp (.tup vs)
  exact q _ _ _ x1 r1 (.tup (.inl upd_same) (RpL.nx x1 h))
theorem op_addP : OpR X (binaryOp .Add) (r2 X.K dAdd) := by
  intro pins s σ H v u vv uu Q I rv ru h
  obtain ⟨A, g, x, y, r, hx, hy, h⟩ := h
  cases hx with
  | int i =>
    cases hy with
    | int j => exact op_add pins s σ H _ _ vv uu Q I rv ru ⟨i, j, rfl, rfl, h A H _ (Nx.refl _ _) r (.int _)⟩
    | _ => exact absurd h id
  | str a =>
    cases hy with
    | str b =>
      have h' : (if a.length + b.length ≤ sizeLine then R.ok (D.str (a ++ b)) g else .bad).sat (GoD X.K A H Q) NoE := h
      split at h'
      · rename_i hl
        exact op_add_str pins s σ H _ _ vv uu Q I rv ru ⟨a, b, rfl, rfl, hl, h' A H _ (Nx.refl _ _) r (.str _)⟩
      · exact absurd h' id
    | _ => exact absurd h id
  | @tup a vs ds hq hr =>
    cases hy with
    | @tup a' vs' ds' hq' hr' =>
      have h' : (if ds.length + ds'.length ≤ sizeLine then R.ok (D.tup (ds ++ ds')) g else .bad).sat (GoD X.K A H Q) NoE := h
      split at h'
      · rename_i hl
        rw [hr.len, hr'.len] at hl
        refine op_catA pins s σ H _ _ vv uu Q I rv ru ⟨a, a', vs, vs', rfl, rfl, hq.sq, hq'.sq, hl, fun e => ?_, fun e e' => ?_, fun e e' => ?_⟩
        · subst e
          cases hr
          exact h' A H _ (Nx.refl _ _) r (.tup hq' hr')
        · subst e'
          cases hr'
          rw [List.append_nil] at h'
          exact h' A H _ (Nx.refl _ _) r (.tup hq hr)
        · exact new_tup r (hr.append hr') h'
      · exact absurd h' id
    | _ => exact absurd h id
  | @ref n a ha =>
    cases hy with
    | @ref m b hb =>
      have h' : ((match g[n]?, g[m]? with
        | some (.lst xs), some (.lst ys) => if xs.length + ys.length ≤ sizeLine then .ok (.ref g.length) (g ++ [.lst (xs ++ ys)]) else .bad
        | _, _ => .bad : R D)).sat (GoD X.K A H Q) NoE := h
      split at h'
      · rename_i xs ys e1 e2
        split at h'
        · rename_i hl
          obtain ⟨vs, h1, r1⟩ := r.obj n _ a e1 ha
          obtain ⟨ws, h2, r2'⟩ := r.obj m _ b e2 hb
          rw [r1.len, r2'.len] at hl
          exact op_cat pins s σ H _ _ vv uu Q I rv ru ⟨a, b, vs, ws, rfl, rfl, h1, h2, hl, new_lst r (r1.append r2') h'⟩
        · exact absurd h' id
      · exact absurd h' id
    | _ => exact absurd h id
  | _ => cases hy <;> exact absurd h id
theorem intP {f : Value → Value → Sem Value} {C : Int → Int → Bool} {k : Int → Int → Int} {C' : Int → Int → Prop} (hC : ∀ i j, C i j = true → C' i j) (ho : OpR X f (rI C' fun i j => .int (k i j)))
    {h : D → D → G → R D} (he : ∀ x y g d g', h x y g = .ok d g' → ∃ i j, x = .int i ∧ y = .int j ∧ C i j = true ∧ d = .int (k i j) ∧ g' = g) (hx : ∀ x y g c fs g', h x y g ≠ .ex c fs g') : OpR X f (r2 X.K h) := by
  intro pins s σ H v u vv uu Q I rv ru hh
  obtain ⟨A, g, x, y, r, hx', hy, hh⟩ := hh
  cases e : h x y g with
  | bad => rw [e] at hh; exact absurd hh id
  | ex c fs g' => exact absurd e (hx _ _ _ _ _ _)
  | ok d g' =>
    rw [e] at hh
    obtain ⟨i, j, rfl, rfl, hc, rfl, rfl⟩ := he _ _ _ _ _ e
    cases hx'
    cases hy
    exact ho pins s σ H _ _ vv uu Q I rv ru ⟨i, j, rfl, rfl, hC _ _ hc, hh A H _ (Nx.refl _ _) r (.int _)⟩
theorem op_subP : OpR X (binaryOp .Sub) (r2 X.K dSub) := by
  refine intP (C := fun _ _ => true) (C' := fun _ _ => True) (k := fun i j => i - j) (fun _ _ _ => trivial) (fun pins s σ H v u vv uu Q I rv ru ⟨i, j, e1, e2, _, q⟩ => op_sub pins s σ H v u vv uu Q I rv ru ⟨i, j, e1, e2, q⟩) (fun x y g d g' e => ?_) (fun x y g c fs g' e => ?_)
  · unfold dSub at e
    split at e
    · cases e; exact ⟨_, _, rfl, rfl, rfl, rfl, rfl⟩
    · cases e
  · unfold dSub at e
    split at e <;> cases e
theorem mul_or : OpR X (binaryOp .Mult) (rI (fun i j => CMul i j ∨ CMulW i j) fun i j => .int (i * j)) := by
  intro pins s σ H v u vv uu Q I rv ru ⟨i, j, e1, e2, c, q⟩
  rcases c with c | c
  · exact op_mul pins s σ H v u vv uu Q I rv ru ⟨i, j, e1, e2, c, q⟩
  · exact op_mulW pins s σ H v u vv uu Q I rv ru ⟨i, j, e1, e2, c, q⟩
theorem op_mulP : OpR X (binaryOp .Mult) (r2 X.K dMul) := by
  refine intP (C := mulOk) (k := fun i j => i * j) (fun _ _ h => mulOk_c h) mul_or (fun x y g d g' e => ?_) (fun x y g c fs g' e => ?_)
  · unfold dMul at e
    split at e
    · split at e
      · rename_i h; cases e; exact ⟨_, _, rfl, rfl, h, rfl, rfl⟩
      · cases e
    · cases e
  · unfold dMul at e
    split at e
    · split at e <;> cases e
    · cases e
theorem op_divP : OpR X (binaryOp .FloorDiv) (r2 X.K dDiv) := by
  refine intP (C := fun _ j => divOk j) (C' := CDivW) (k := fun i j => i / j) (fun i j h => ?_) op_fdivW (fun x y g d g' e => ?_) (fun x y g c fs g' e => ?_)
  · unfold divOk at h
    rw [Bool.and_eq_true, decide_eq_true_iff, decide_eq_true_iff] at h
    exact h
  · unfold dDiv at e
    split at e
    · split at e
      · rename_i h; cases e; exact ⟨_, _, rfl, rfl, h, rfl, rfl⟩
      · cases e
    · cases e
  · unfold dDiv at e
    split at e
    · split at e <;> cases e
    · cases e
theorem op_modP : OpR X (binaryOp .Mod) (r2 X.K dMod) := by
  refine intP (C := fun _ j => decide (0 < j)) (C' := fun _ j => 0 < j) (k := fun i j => i % j) (fun i j h => of_decide_eq_true h) op_mod (fun x y g d g' e => ?_) (fun x y g c fs g' e => ?_)
  · unfold dMod at e
    split at e
    · split at e
      · rename_i h; cases e; exact ⟨_, _, rfl, rfl, h, rfl, rfl⟩
      · cases e
    · cases e
  · unfold dMod at e
    split at e
    · split at e <;> cases e
    · cases e
theorem op_powP : OpR X (binaryOp .Pow) (r2 X.K dPow) := by
  refine intP (C := powOk) (C' := CPow) (k := fun i j => i ^ j.toNat) (fun i j h => ?_) op_pow (fun x y g d g' e => ?_) (fun x y g c fs g' e => ?_)
  · unfold powOk at h
    rw [Bool.and_eq_true, Bool.and_eq_true, decide_eq_true_iff, decide_eq_true_iff, decide_eq_true_iff] at h
    exact ⟨h.1.1, h.1.2, h.2⟩
  · unfold dPow at e
    split at e
    · split at e
      · rename_i h; cases e; exact ⟨_, _, rfl, rfl, h, rfl, rfl⟩
      · cases e
    · cases e
  · unfold dPow at e
    split at e
    · split at e <;> cases e
    · cases e
theorem op_binP : ∀ op : Operator, OpR X (binaryOp op) (r2 X.K (binD op))
  | .Add => op_addP
  | .Sub => op_subP
  | .Mult => op_mulP
  | .FloorDiv => op_divP
  | .Mod => op_modP
  | .Pow => op_powP
  | .MatMult | .Div | .LShift | .RShift | .BitOr | .BitXor | .BitAnd => fun _ _ _ _ _ _ _ _ _ _ _ _ ⟨_, _, _, _, _, _, _, h⟩ => absurd h id
/-! ### comparisons -/
def dCmpI (p : Int → Int → Bool) (q : Str → Str → Option Bool) (x y : D) (g : G) : R D := match x, y with
  | .int i, .int j => .ok (.bl (p i j)) g
  | .str a, .str b => ofB (q a b) g
  | _, _ => .bad
def isNon : D → Bool
  | .non => true | _ => false
def dIs (neg : Bool) (x y : D) (g : G) : R D := match y with
  | .non => .ok (.bl (xor neg (isNon x))) g
  | _ => .bad
def flatD : D → Bool
  | .non => true | .bl _ => true | .int _ => true | .str _ => true | _ => false
def feq : D → D → Bool
  | .non, .non => true
  | .bl a, .bl b => a == b
  | .bl a, .int b => (if a then 1 else 0) == b
  | .int a, .bl b => a == (if b then 1 else 0)
  | .int a, .int b => a == b
  | .str a, .str b => a == b
  | _, _ => false
def keyD : D → Option Key
  | .int i => some (.inl i)
  | .str x => some (.inr x)
  | _ => none
def getK {β : Type} (k : Key) : List (Key × β) → Option β
  | [] => none
  | (k', v) :: r => if k' = k then some v else getK k r
def dInB (x y : D) (g : G) : Option Bool := match y with
  | .tup ys => if flatD x && ys.all flatD then some (ys.any fun z => feq z x) else none
  | .ro ys => if flatD x && ys.all flatD then some (ys.any fun z => feq z x) else none
  | .ref n => (match g[n]? with
    | some (.lst ys) => (match toP g 70 x, allP (toP g 69) ys with
      | some d, some ds => if SeqAt.shaped d && SeqAt.shaped (.list ds) then some (ds.any fun z => PyData.eqv z d) else none
      | _, _ => none)
    | some (.dic kvs) => (keyD x).map fun k => (getK k kvs).isSome
    | _ => none)
  | _ => none
end
end PD
set_option Elab.async false
set_option linter.all false
set_option maxRecDepth 100000
set_option maxHeartbeats 4000000
/-! PD3: comparisons, places, slices, truth, built-ins, methods. -/
namespace PD
open PySem PySem.Spec PyProof.Rows L2
variable [Tb]
section
variable {X : Cx}
theorem op_cmpI {op : CmpOp} {p : Int → Int → Bool} {q : Str → Str → Option Bool} (hi : OpR X (compareOp op) (rI0 fun i j => .bl (p i j)))
    (hs : OpR X (compareOp op) (fun x y H Q => ∃ i j b, x = .str i ∧ y = .str j ∧ q i j = some b ∧ Q (.bl b) H)) : OpR X (compareOp op) (r2 X.K (dCmpI p q)) := by
  intro pins s σ H v u vv uu Q I rv ru h
  obtain ⟨A, g, x, y, r, hx, hy, h⟩ := h
  cases hx with
  | int i =>
    cases hy with
    | int j => exact hi pins s σ H _ _ vv uu Q I rv ru ⟨i, j, rfl, rfl, h A H _ (Nx.refl _ _) r (.bl _)⟩
    | _ => exact absurd h id
  | str a =>
    cases hy with
    | str b =>
      obtain ⟨c, e, z⟩ := ofB_sat h r
      exact hs pins s σ H _ _ vv uu Q I rv ru ⟨a, b, c, rfl, rfl, e, z⟩
    | _ => exact absurd h id
  | _ => cases hy <;> exact absurd h id
abbrev qNo : Str → Str → Option Bool := fun _ _ => none
abbrev qLt : Str → Str → Option Bool := fun a b => some (decide (a.cps.toList < b.cps.toList))
theorem no_str {op : CmpOp} : OpR X (compareOp op) (fun x y H Q => ∃ i j b, x = .str i ∧ y = .str j ∧ qNo i j = some b ∧ Q (.bl b) H) := by
  intro pins s σ H v u vv uu Q I rv ru ⟨i, j, b, _, _, e, _⟩
  cases e
theorem op_isP (neg : Bool) : OpR X (compareOp (if neg then .IsNot else .Is)) (r2 X.K (dIs neg)) := by
  intro pins s σ H v u vv uu Q I rv ru h
  obtain ⟨A, g, x, y, r, hx, hy, h⟩ := h
  cases hy with
  | non =>
    have q : Q (.bl (xor neg (isNon x))) H := h A H _ (Nx.refl _ _) r (.bl _)
    have e : (isNon x) = decide (v = .non) := by cases hx <;> rfl
    rw [e] at q
    cases neg with
    | false => exact op_isN pins s σ H _ _ vv uu Q I rv ru ⟨rfl, by simpa using q⟩
    | true => exact op_notN pins s σ H _ _ vv uu Q I rv ru ⟨rfl, by simpa using q⟩
  | _ => exact absurd h id

/-! ### in -/
theorem feq_ok {K : PySem.W.Frag} {A : List Addr} {H : Hp} {x y : D} {v u : V} (hx : Rp K A H x v) (hy : Rp K A H y u) (fx : flatD x = true) (fy : flatD y = true) : feq x y = eqV v u := by
  cases hx <;> first | (exact absurd (show false = true from fx) Bool.false_ne_true) | (cases hy <;> first | rfl | exact absurd (show false = true from fy) Bool.false_ne_true)
theorem flat_ok {K : PySem.W.Frag} {A : List Addr} {H : Hp} {x : D} {v : V} (hx : Rp K A H x v) (fx : flatD x = true) : flatV v = true := by
  cases hx <;> first | rfl | exact absurd (show false = true from fx) Bool.false_ne_true
theorem flats_ok {K : PySem.W.Frag} {A : List Addr} {H : Hp} {x : D} {v : V} (hx : Rp K A H x v) (fx : flatD x = true) : ∀ {ys : List D} {us : List V}, RpL K A H ys us → ys.all flatD = true → us.all flatV = true ∧ (ys.any fun z => feq z x) = inV v us
  | _, _, .nil, _ => ⟨rfl, rfl⟩
  | y :: ys, _, .cons (v := u) (vs := us) h t, e => by
    rw [List.all_cons, Bool.and_eq_true] at e
    obtain ⟨h1, h2⟩ := flats_ok hx fx t e.2
    refine ⟨by rw [List.all_cons, flat_ok h e.1, h1]; rfl, ?_⟩
    show (feq y x || ys.any fun z => feq z x) = (eqV u v || us.any fun y => eqV y v)
    rw [h2, feq_ok h hx e.1 fx]
    rfl
theorem keyD_ok {K : PySem.W.Frag} {A : List Addr} {H : Hp} {x : D} {v : V} {k : Key} (hx : Rp K A H x v) (e : keyD x = some k) : v = kV k := by
  cases hx with
  | int i => cases e; rfl
  | str s => cases e; rfl
  | _ => cases e
theorem getK_ok {K : PySem.W.Frag} {A : List Addr} {H : Hp} (k : Key) : ∀ {kvs : List (Key × D)} {ws : List (Key × V)}, RpF K A H kvs ws → (getK k kvs = none → valV ws k = none) ∧ (∀ d, getK k kvs = some d → ∃ v, valV ws k = some v ∧ Rp K A H d v)
  | [], _, .nil => ⟨fun _ => rfl, fun d e => by cases e⟩
  | (k', d') :: r, _ :: rs, .cons (b := q) h t => by
    obtain ⟨h1, h2⟩ := getK_ok k t
    obtain ⟨k2, v2⟩ := q
    obtain ⟨e1, e2⟩ := h
    have e1' : k' = k2 := e1
    subst e1'
    by_cases hk : k' = k
    · rw [valV_pos hk]
      refine ⟨fun e => ?_, fun d e => ?_⟩
      · unfold getK at e; rw [if_pos hk] at e; cases e
      · unfold getK at e; rw [if_pos hk] at e; cases e; exact ⟨_, rfl, e2⟩
    · have ne : valV ((k', v2) :: rs) k = valV rs k := by simp [valV, List.find?_cons, hk]
      refine ⟨fun e => ?_, fun d e => ?_⟩
      · unfold getK at e; rw [if_neg hk] at e
        rw [ne]; exact h1 e
      · unfold getK at e; rw [if_neg hk] at e
        rw [ne]; exact h2 d e
def nB (neg : Bool) (b : Bool) : Bool := if neg then !b else b
theorem op_inP (hu : X.A.units + 65 < cLine) (neg : Bool) : OpR X (compareOp (if neg then .NotIn else .In)) (r2 X.K fun x y g => ofB ((dInB x y g).map (nB neg)) g) := by
  intro pins s σ H v u vv uu Q I rv ru h
  obtain ⟨A, g, x, y, r, hx, hy, h⟩ := h
  obtain ⟨b', e', q⟩ := ofB_sat h r
  cases e : dInB x y g with
  | none => rw [e] at e'; cases e'
  | some b =>
    rw [e] at e'
    have eb : nB neg b = b' := Option.some.inj e'
    subst eb
    have seq : ∀ (p : Addr) (xs : List V) (ys : List D), u = .ref p → (SqL X.K H p xs ∨ SqT X.K H p xs) → RpL X.K A H ys xs → (if flatD x && ys.all flatD then some (ys.any fun z => feq z x) else none) = some b →
        wpAny (model X.prog X.w) X.A (compareOp (if neg then .NotIn else .In) vv uu) (EP X pins σ Q) X.xe s := fun p xs ys eu hs hr eb => by
      split at eb
      · rename_i hf
        rw [Bool.and_eq_true] at hf
        obtain ⟨h1, h2⟩ := flats_ok hx hf.1 hr hf.2
        have e2 := Option.some.inj eb
        rw [h2] at e2
        subst e2
        cases neg with
        | false => exact op_in_seq pins s σ H v u vv uu Q I rv ru ⟨p, xs, eu, hs, flat_ok hx hf.1, h1, q⟩
        | true => exact op_notIn_seq pins s σ H v u vv uu Q I rv ru ⟨p, xs, eu, hs, flat_ok hx hf.1, h1, q⟩
      · cases eb
    cases hy with
    | @tup a vs ds hq hr => exact seq a vs ds rfl (.inr hq.sq) hr e
    | @ro a vs ds hq hr => exact seq a vs ds rfl (.inl hq.sq) hr e
    | @ref n a ha =>
      have e2 : (match g[n]? with
        | some (.lst ys) => (match toP g 70 x, allP (toP g 69) ys with
          | some d, some ds => if SeqAt.shaped d && SeqAt.shaped (.list ds) then some (ds.any fun z => PyData.eqv z d) else none
          | _, _ => none)
        | some (.dic kvs) => (keyD x).map fun k => (getK k kvs).isSome
        | _ => none) = some b := e
      split at e2
      · rename_i ys en
        split at e2
        · rename_i d ds e3 e4
          split at e2
          · rename_i hs
            rw [Bool.and_eq_true] at hs
            cases e2
            obtain ⟨vs, hv, hr⟩ := r.obj n _ a en ha
            have d1 := toP_ok r _ _ _ _ hx e3
            have d2 : Dp X.K H (.ref a) (.list ds) := .lst (.of hv) (allP_ok (toP_ok r 69) hr e4)
            cases neg with
            | false => exact op_inD hu pins s σ H v _ vv uu Q I rv ru ⟨d, ds, d1, d2, hs.1, hs.2, q⟩
            | true => exact op_notInD hu pins s σ H v _ vv uu Q I rv ru ⟨d, ds, d1, d2, hs.1, hs.2, q⟩
          · cases e2
        · cases e2
      · rename_i kvs en
        cases ek : keyD x with
        | none => rw [ek] at e2; cases e2
        | some k =>
          rw [ek] at e2
          have eb : (getK k kvs).isSome = b := Option.some.inj e2
          obtain ⟨ws, hv, hr⟩ := r.obj n _ a en ha
          obtain ⟨k1, k2⟩ := getK_ok k hr
          have ev := keyD_ok hx ek
          have g0 : DGet H a v (valV ws k) := by rw [ev]; exact DGet.k hv
          have es : (valV ws k).isSome = b := by
            rw [← eb]
            cases z : getK k kvs with
            | none => rw [k1 z] <;> rfl
            | some d => obtain ⟨w', z1, _⟩ := k2 d z; rw [z1]; rfl
          have ru' : uu = .ref a := ru
          subst ru'
          cases neg with
          | false => exact d_in (by omega) I g0 rv fun s' I' => ⟨.bl b, H, I', by rw [es]; exact rfl, q⟩
          | true => exact d_notIn (by omega) I g0 rv fun s' I' => ⟨.bl (!b), H, I', by rw [es]; exact rfl, q⟩
      · cases e2
    | _ => cases e

/-! ### places -/
def ofO : Option D → G → R D
  | some d, g => .ok d g
  | none, _ => .bad
def atD (ds : List D) : D → Option D
  | .int i => atI ds i
  | _ => none
def atS (z : Str) : D → Option D
  | .int i => if z.length ≤ sizeLine then (atI z.cps.toList i).map fun c => .str ⟨#[c]⟩ else none
  | _ => none
def getD' (kvs : List (Key × D)) (y : D) : Option D := match keyD y with
  | some k => getK k kvs
  | none => none
def dIdxO (x y : D) (g : G) : Option D := match x with
  | .tup ds => atD ds y
  | .ro ds => atD ds y
  | .str z => atS z y
  | .ref n => (match g[n]? with
    | some (.lst ds) => atD ds y
    | some (.dic kvs) => getD' kvs y
    | _ => none)
  | _ => none
def dIdx (x y : D) (g : G) : R D := ofO (dIdxO x y g) g
theorem ofO_sat {K : PySem.W.Frag} {A : List Addr} {H : Hp} {g : G} {Q : VK} {o : Option D} (h : (ofO o g).sat (GoD K A H Q) NoE) (r : Rel K A g H) : ∃ d, o = some d ∧ ∀ v, Rp K A H d v → Q v H := by
  cases o with
  | none => exact absurd h id
  | some d => exact ⟨d, rfl, fun v hv => h A H v (Nx.refl _ _) r hv⟩
theorem atI_rp {K : PySem.W.Frag} {A : List Addr} {H : Hp} {ds : List D} {vs : List V} {i : Int} {d : D} (h : RpL K A H ds vs) (e : atI ds i = some d) : ∃ v, atI vs i = some v ∧ Rp K A H d v := by
  unfold atI at e ⊢
  rw [← h.len]
  cases q : ixN ds.length i with
  | none => rw [q] at e; cases e
  | some j =>
    rw [q] at e
    exact h.get e
theorem atD_rp {K : PySem.W.Frag} {A : List Addr} {H : Hp} {ds : List D} {vs : List V} {y d : D} {u : V} (h : RpL K A H ds vs) (hy : Rp K A H y u) (e : atD ds y = some d) : ∃ i v, u = .int i ∧ atI vs i = some v ∧ Rp K A H d v := by
  cases hy with
  | int i =>
    obtain ⟨v, h1, h2⟩ := atI_rp h e
    exact ⟨i, v, rfl, h1, h2⟩
  | _ => cases e
theorem ix_P (hu : X.A.units + 1 < cLine) : IxR X (r2 X.K dIdx) := by
  intro value slice pins s σ H v u vv uu Q I rv ru h hs
  obtain ⟨A, g, x, y, r, hx, hy, h⟩ := h
  obtain ⟨d, e, q⟩ := ofO_sat h r
  cases hx with
  | @tup a vs ds hq hr =>
    obtain ⟨i, w', rfl, e', rw'⟩ := atD_rp hr hy e
    exact ix_tup value slice pins s σ H _ _ vv uu Q I rv ru ⟨a, vs, i, w', rfl, rfl, hq.sq, e', q _ rw'⟩ hs
  | @ro a vs ds hq hr =>
    obtain ⟨i, w', rfl, e', rw'⟩ := atD_rp hr hy e
    exact ix_list value slice pins s σ H _ _ vv uu Q I rv ru ⟨a, vs, i, w', rfl, rfl, hq.sq, e', q _ rw'⟩ hs
  | str z =>
    cases hy with
    | int i =>
      have e2 : (if z.length ≤ sizeLine then (atI z.cps.toList i).map fun c => D.str ⟨#[c]⟩ else none) = some d := e
      split at e2
      · rename_i hl
        cases e3 : atI z.cps.toList i with
        | none => rw [e3] at e2; cases e2
        | some c =>
          rw [e3] at e2
          have e4 := Option.some.inj e2
          subst e4
          exact ix_str value slice pins s σ H _ _ vv uu Q I rv ru ⟨z, i, c, rfl, rfl, hl, e3, q _ (.str _)⟩ hs
      · cases e2
    | _ => cases e
  | @ref n a ha =>
    have e2 : (match g[n]? with
      | some (.lst ds) => atD ds y
      | some (.dic kvs) => getD' kvs y
      | _ => none) = some d := e
    split at e2
    · rename_i ds en
      obtain ⟨vs, hv, hr⟩ := r.obj n _ a en ha
      obtain ⟨i, w', rfl, e', rw'⟩ := atD_rp hr hy e2
      exact ix_list value slice pins s σ H _ _ vv uu Q I rv ru ⟨a, vs, i, w', rfl, rfl, .of hv, e', q _ rw'⟩ hs
    · rename_i kvs en
      obtain ⟨ws, hv, hr⟩ := r.obj n _ a en ha
      unfold getD' at e2
      split at e2
      · rename_i k ek
        obtain ⟨w', e1, e3⟩ := (getK_ok k hr).2 d e2
        have ev := keyD_ok hy ek
        have g0 : DGet H a u (some w') := by rw [ev, ← e1]; exact DGet.k hv
        have rv' : vv = .ref a := rv
        subst rv'
        exact tail_any (dict_typeIs I g0) PySem.F.slot_dict_getitem.lookup (d_getItem hu I g0 ru fun w2 s3 I3 r3 => ⟨w', H, I3, r3, q _ e3⟩) hs
      · cases e2
    · cases e2
  | _ => cases e

/-! ### slices -/
def cutD (xs : List D) (lo hi : Option Int) : List D := (xs.drop (HT.sIx xs.length 0 lo)).take (HT.sIx xs.length xs.length hi - HT.sIx xs.length 0 lo)
theorem cut_rp {K : PySem.W.Frag} {A : List Addr} {H : Hp} {ds : List D} {vs : List V} (h : RpL K A H ds vs) (lo hi : Option Int) : RpL K A H (cutD ds lo hi) (cutV vs lo hi) := by
  unfold cutD cutV
  rw [← h.len]
  exact (h.drop _).take _
def dSl (x : D) (lo hi : Option Int) (g : G) : R D := match x with
  | .tup ds => if HT.sIx ds.length 0 lo = 0 ∧ HT.sIx ds.length ds.length hi = ds.length then .bad else .ok (.tup (cutD ds lo hi)) g
  | .ro ds => .ok (.ref g.length) (g ++ [.lst (cutD ds lo hi)])
  | .ref n => (match g[n]? with
    | some (.lst ds) => .ok (.ref g.length) (g ++ [.lst (cutD ds lo hi)])
    | _ => .bad)
  | _ => .bad
theorem sl_P : L2.SlR X (fun v lo hi H Q => ∃ A g x, Rel X.K A g H ∧ Rp X.K A H x v ∧ (dSl x lo hi g).sat (GoD X.K A H Q) NoE) := by
  intro pins s σ H v vv vl vu lo hi sl Q I rv hs pl pu h
  obtain ⟨A, g, x, r, hx, h⟩ := h
  cases hx with
  | @tup a vs ds hq hr =>
    have h' : ((if HT.sIx ds.length 0 lo = 0 ∧ HT.sIx ds.length ds.length hi = ds.length then .bad else .ok (.tup (cutD ds lo hi)) g : R D)).sat (GoD X.K A H Q) NoE := h
    split at h'
    · exact absurd h' id
    · rename_i hn
      exact sl_tup pins s σ H _ vv vl vu lo hi sl Q I rv hs pl pu ⟨a, vs, rfl, hq.sq, by rw [← hr.len]; exact hn, new_tup r (cut_rp hr lo hi) h'⟩
  | @ro a vs ds hq hr => exact sl_list pins s σ H _ vv vl vu lo hi sl Q I rv hs pl pu ⟨a, vs, rfl, hq.sq, new_lst r (cut_rp hr lo hi) h⟩
  | @ref n a ha =>
    have h' : ((match g[n]? with
      | some (.lst ds) => .ok (.ref g.length) (g ++ [.lst (cutD ds lo hi)])
      | _ => .bad : R D)).sat (GoD X.K A H Q) NoE := h
    split at h'
    · rename_i ds en
      obtain ⟨vs, hv, hr⟩ := r.obj n _ a en ha
      exact sl_list pins s σ H _ vv vl vu lo hi sl Q I rv hs pl pu ⟨a, vs, rfl, .of hv, new_lst r (cut_rp hr lo hi) h'⟩
    · exact absurd h' id
  | _ => exact absurd h id

/-! ### truth -/
def truD (x : D) (g : G) : Option Bool := match x with
  | .non => some false
  | .bl b => some b
  | .int i => some (i != 0)
  | .str y => if y.length ≤ sizeLine then some ((y.length : Int) != 0) else none
  | .tup ds => some (!ds.isEmpty)
  | .ro ds => some (!ds.isEmpty)
  | .ref n => (match g[n]? with
    | some (.lst ds) => some (!ds.isEmpty)
    | some (.dic kvs) => some (!kvs.isEmpty)
    | _ => none)
  | .ty _ => none
theorem rpl_empty {K : PySem.W.Frag} {A : List Addr} {H : Hp} {ds : List D} {vs : List V} (h : RpL K A H ds vs) : (!ds.isEmpty) = !vs.isEmpty := by cases h <;> rfl
theorem truD_ok {K : PySem.W.Frag} {A : List Addr} {H : Hp} {g : G} (r : Rel K A g H) {x : D} {v : V} {k : Bool} (hx : Rp K A H x v) (e : truD x g = some k) : TruV K v H k := by
  cases hx with
  | non => cases e; exact rfl
  | bl b => cases e; exact rfl
  | int i => cases e; exact rfl
  | str y =>
    have e' : (if y.length ≤ sizeLine then some ((y.length : Int) != 0) else none) = some k := e
    split at e'
    · rename_i hl; cases e'; exact ⟨hl, rfl⟩
    · cases e'
  | ty n => cases e
  | tup hq hr => cases e; exact .inr (.inl ⟨_, hq.sq, rpl_empty hr⟩)
  | ro hq hr => cases e; exact .inl ⟨_, hq.sq, rpl_empty hr⟩
  | @ref n a ha =>
    have e' : (match g[n]? with
      | some (.lst ds) => some (!ds.isEmpty)
      | some (.dic kvs) => some (!kvs.isEmpty)
      | _ => none) = some k := e
    split at e'
    · rename_i ds en
      cases e'
      obtain ⟨vs, hv, hr⟩ := r.obj n _ a en ha
      exact .inl ⟨vs, .of hv, rpl_empty hr⟩
    · rename_i kvs en
      cases e'
      obtain ⟨ws, hv, hr⟩ := r.obj n _ a en ha
      refine .inr (.inr ⟨ws, hv, ?_⟩)
      cases hr <;> rfl
    · cases e'
end
end PD
set_option Elab.async false
set_option linter.all false
set_option maxRecDepth 100000
set_option maxHeartbeats 4000000
/-! PD3s: < of data of any shape (up to the first place that differs), and sorted by it. -/
namespace PD
open PySem PySem.Spec PyProof.Rows PySem.W PySem.SeqAt
open PySem.AutoSeq1 (wpAny_loadPart')
open PySem.MeetsSeq PySem.MeetsSeq2 PySem.MeetsSeq3 PySem.SeqRoads2
mutual
/-- x < y may be asked where they are not equal -/
def ltOk : PyData → PyData → Bool
  | .int _, .int _ => true
  | .str _, .str _ => true
  | .list xs, .list ys => ltOks xs ys
  | .tuple xs, .tuple ys => ltOks xs ys
  | _, _ => false
def ltOks : List PyData → List PyData → Bool
  | x :: xs, y :: ys => if PyData.eqv x y = true then ltOks xs ys else ltOk x y
  | _, _ => true
end
theorem ltOks_yes {x y : PyData} {xs ys : List PyData} (h : ltOks (x :: xs) (y :: ys) = true) (e : PyData.eqv x y = true) : ltOks xs ys = true := by
  rw [ltOks, if_pos e] at h; exact h
theorem ltOks_no {x y : PyData} {xs ys : List PyData} (h : ltOks (x :: xs) (y :: ys) = true) (e : PyData.eqv x y = false) : ltOk x y = true := by
  rw [ltOks, if_neg (by rw [e]; decide)] at h; exact h
theorem can_cons {x : PyData} {xs : List PyData} (h : PyData.canLayAll0 (x :: xs) = true) : x.canLay0 = true ∧ PyData.canLayAll0 xs = true := by
  rw [PyData.canLayAll0, Bool.and_eq_true] at h; exact h
mutual
theorem toks_same : ∀ (x y : PyData), x.canLay0 = true → PyData.eqv x y = true → keyToks x = keyToks y
  | .none, y, _, h => by cases y <;> first | rfl | (simp [PyData.eqv] at h)
  | .bool a, y, _, h => by
    cases y with
    | bool b => have e : (a == b) = true := h; rw [beq_iff_eq.mp e]
    | int j =>
      have e : ((if a then (1 : Int) else 0) == j) = true := h
      rw [← beq_iff_eq.mp e]; cases a <;> rfl
    | _ => simp [PyData.eqv] at h
  | .int i, y, _, h => by
    cases y with
    | bool b =>
      have e : (i == (if b then (1 : Int) else 0)) = true := h
      rw [beq_iff_eq.mp e]; cases b <;> rfl
    | int j => have e : (i == j) = true := h; rw [beq_iff_eq.mp e]
    | _ => simp [PyData.eqv] at h
  | .str a, y, _, h => by
    cases y with
    | str b => have e : (a == b) = true := h; rw [beq_iff_eq.mp e]
    | _ => simp [PyData.eqv] at h
  | .list xs, y, c, h => by
    cases y with
    | list ys => exact toksAll_same xs ys c h
    | _ => simp [PyData.eqv] at h
  | .tuple xs, y, c, h => by
    cases y with
    | tuple ys => exact toksAll_same xs ys c h
    | _ => simp [PyData.eqv] at h
  | .dict _, _, c, _ => by cases c
theorem toksAll_same : ∀ (xs ys : List PyData), PyData.canLayAll0 xs = true → PyData.eqvAll xs ys = true → keyToksAll xs = keyToksAll ys
  | [], [], _, _ => rfl
  | [], _ :: _, _, h => by simp [PyData.eqvAll] at h
  | _ :: _, [], _, h => by simp [PyData.eqvAll] at h
  | x :: xs, y :: ys, c, h => by
    rw [eqv_all_cons, Bool.and_eq_true] at h
    rw [toks_all_cons, toks_all_cons, toks_same x y (can_cons c).1 h.1, toksAll_same xs ys (can_cons c).2 h.2]
end
abbrev lexL := PyProof.Rows.lexLt itemOrd
theorem lex_at {p q : Int ⊕ List Nat} (hne : p ≠ q) (l m : List (Int ⊕ List Nat)) : lexL ([p] ++ l) ([q] ++ m) = lexL [p] [q] := lex_atom hne l m
mutual
theorem toks_diff : ∀ (x y : PyData), x.canLay0 = true → ltOk x y = true → PyData.eqv x y = false → ∀ l m, lexL (keyToks x ++ l) (keyToks y ++ m) = dataLt x y
  | .int i, y, c, o, h, l, m => by
    cases y with
    | int j =>
      have hne : (Sum.inl i : Int ⊕ List Nat) ≠ .inl j := fun e => by
        have e' : i = j := by injection e
        have h' : (i == j) = false := h
        rw [e'] at h'
        simp at h'
      exact lex_at hne l m
    | _ => simp [ltOk] at o
  | .str a, y, c, o, h, l, m => by
    cases y with
    | str b =>
      have hne : (Sum.inr a.cps.toList : Int ⊕ List Nat) ≠ .inr b.cps.toList := fun e => by
        have e' : a = b := str_of_cps (by injection e)
        have h' : (a == b) = false := h
        rw [e'] at h'
        simp at h'
      exact lex_at hne l m
    | _ => simp [ltOk] at o
  | .list xs, y, c, o, h, l, m => by
    cases y with
    | list ys => exact toksAll_diff xs ys c (by simpa [ltOk] using o) h l m
    | _ => simp [ltOk] at o
  | .tuple xs, y, c, o, h, l, m => by
    cases y with
    | tuple ys => exact toksAll_diff xs ys c (by simpa [ltOk] using o) h l m
    | _ => simp [ltOk] at o
  | .none, y, _, o, _, _, _ => by cases y <;> simp [ltOk] at o
  | .bool _, y, _, o, _, _, _ => by cases y <;> simp [ltOk] at o
  | .dict _, y, _, o, _, _, _ => by cases y <;> simp [ltOk] at o
theorem toksAll_diff : ∀ (xs ys : List PyData), PyData.canLayAll0 xs = true → ltOks xs ys = true → PyData.eqvAll xs ys = false → ∀ l m, lexL (keyToksAll xs ++ l) (keyToksAll ys ++ m) = lexL (keyToksAll xs) (keyToksAll ys)
  | [], [], _, _, h, _, _ => by simp [PyData.eqvAll] at h
  | [], y :: ys, _, _, _, l, m => by
    rw [toks_all_cons]
    simp only [keyToksAll]
    exact (lex_diff (O := itemOrd) (by simp)).trans (lex_diff (O := itemOrd) (by simp)).symm
  | x :: xs, [], _, _, _, l, m => by
    rw [toks_all_cons]
    simp only [keyToksAll]
    exact (lex_diff (O := itemOrd) (by simp)).trans (lex_diff (O := itemOrd) (by simp)).symm
  | x :: xs, y :: ys, c, o, h, l, m => by
    rw [toks_all_cons, toks_all_cons]
    show lexL (.inl 1 :: ((keyToks x ++ keyToksAll xs) ++ l)) (.inl 1 :: ((keyToks y ++ keyToksAll ys) ++ m)) = lexL (.inl 1 :: (keyToks x ++ keyToksAll xs)) (.inl 1 :: (keyToks y ++ keyToksAll ys))
    refine (lex_self (O := itemOrd) _ _ _).trans (Eq.trans ?_ (lex_self (O := itemOrd) _ _ _).symm)
    rw [List.append_assoc, List.append_assoc]
    cases e : PyData.eqv x y with
    | true =>
      rw [eqv_all_cons, e, Bool.true_and] at h
      rw [toks_same x y (can_cons c).1 e]
      exact (lex_pre _ _ _).trans ((toksAll_diff xs ys (can_cons c).2 (ltOks_yes o e) h l m).trans (lex_pre _ _ _).symm)
    | false => exact (toks_diff x y (can_cons c).1 (ltOks_no o e) e _ _).trans (toks_diff x y (can_cons c).1 (ltOks_no o e) e _ _).symm
end
theorem all_yes {x y : PyData} {xs ys : List PyData} (c : x.canLay0 = true) (e : PyData.eqv x y = true) : lexL (keyToksAll (x :: xs)) (keyToksAll (y :: ys)) = lexL (keyToksAll xs) (keyToksAll ys) := by
  rw [toks_all_cons, toks_all_cons, toks_same x y c e]
  exact (lex_self (O := itemOrd) _ _ _).trans (lex_pre _ _ _)
theorem all_no {x y : PyData} {xs ys : List PyData} (c : x.canLay0 = true) (o : ltOk x y = true) (e : PyData.eqv x y = false) : lexL (keyToksAll (x :: xs)) (keyToksAll (y :: ys)) = dataLt x y := by
  rw [toks_all_cons, toks_all_cons]
  exact (lex_self (O := itemOrd) _ _ _).trans (toks_diff x y c o e _ _)
/-! ### the walk over two rows of items, up to the first place that differs -/
/-- what two rows give: fin where no place differs -/
inductive LexP (A : Around) (s : Shared) (fin : Bool) : List (Value × Value) → Bool → Prop
  | nil : LexP A s fin [] fin
  | eq {p q : Value} {r : List (Value × Value)} {k : Bool} : EqAt A s p q true → LexP A s fin r k → LexP A s fin ((p, q) :: r) k
  | ne {p q : Value} {r : List (Value × Value)} {k : Bool} : EqAt A s p q false → RcLt A s p q k → LexP A s fin ((p, q) :: r) k
theorem LexP.done {A : Around} {s : Shared} {fin k : Bool} (h : LexP A s fin [] k) : k = fin := by cases h; rfl
theorem LexP.step {A : Around} {s : Shared} {fin k : Bool} {p q : Value} {r : List (Value × Value)} (h : LexP A s fin ((p, q) :: r) k) : ∃ e, EqAt A s p q e ∧ (e = true → LexP A s fin r k) ∧ (e = false → RcLt A s p q k) := by
  cases h with
  | eq h1 h2 => exact ⟨true, h1, fun _ => h2, fun z => absurd z (by decide)⟩
  | ne h1 h2 => exact ⟨false, h1, fun z => absurd z (by decide), fun _ => h2⟩
abbrev SqO (T : String) (d : Option Addr) (xs : Array Value) (n : Nat) (sl : Array (Option Value)) : Obj := { cls := .type T, dict := d, data := .seq xs n, slots := sl }
theorem tup_lt (x y : Addr) (xs ys : Array Value) (n m : Nat) (d1 d2 : Option Addr) (sl1 sl2 : Array (Option Value)) (k : Bool) :
    Meets (Builtin.«tuple.__lt__» ⟨[.ref x, .ref y], []⟩)
      (fun A R s => s.heap.get? x = some (SqO "tuple" d1 xs n sl1) ∧ s.heap.get? y = some (SqO "tuple" d2 ys m sl2) ∧ LexP A.in1 s (decide (xs.size < ys.size)) (xs.toList.zip ys.toList) k ∧ R (.ok (.ret (.bool k))) s) :=
  .of_wp fun prog w A R s ⟨gx, gy, hk, hR⟩ => by
    have sub := AutoSeq1.sub_tuple_tuple
    obtain ⟨hp, gs, dr, tk, os⟩ := s
    wp_walk using wpAny_loadPart' gx, wpAny_loadPart' gy, wpAny_forIn_list _ (fun rest c s' => c.1 = none ∧ s' = ⟨hp, gs, dr, tk, os⟩ ∧ LexP A.in1 ⟨hp, gs, dr, tk, os⟩ (decide (xs.size < ys.size)) rest k) _
    case turn =>
      rintro ⟨p, q⟩ rest c s' ⟨_, rfl, hl⟩
      obtain ⟨e, he, h1, h2⟩ := hl.step
      refine wpAny_bind (he prog w _ _ ?_)
      cases e with
      | true => wp_walk; exact ⟨rfl, rfl, h1 rfl⟩
      | false =>
        have h3 := fun {E} {Q} => h2 rfl prog w E Q
        wp_walk using h3
        exact ⟨_, rfl, hR⟩
    case fin =>
      rintro ⟨c1, c2⟩ s' ⟨hc, rfl, hl⟩
      cases (show c1 = none from hc)
      have ek := hl.done
      subst ek
      wp_walk
      exact ⟨_, rfl, by simpa [Builtin.Tuple.tupleCompareSizes] using hR⟩
    case h => exact ⟨rfl, rfl, hk⟩
theorem zip_at {xs ys : Array Value} {i : Nat} (h1 : i < xs.size) (h2 : i < ys.size) : (xs.toList.zip ys.toList).drop i = (xs[i], ys[i]) :: (xs.toList.zip ys.toList).drop (i + 1) := by
  rw [List.drop_eq_getElem_cons (by rw [List.length_zip, Array.length_toList, Array.length_toList]; omega), List.getElem_zip]
  simp
theorem lst_turn (x y : Addr) (xs ys : Array Value) (n m : Nat) (d1 d2 : Option Addr) (sl1 sl2 : Array (Option Value)) (k : Bool) : ∀ (j i : Nat), min xs.size ys.size ≤ i + j →
    Meets (Builtin.«list.__eq__.loop» ⟨[.ref x, .ref y, rawInt i, rawInt 0], []⟩)
      (fun A R s => s.heap.get? x = some (SqO "list" d1 xs n sl1) ∧ s.heap.get? y = some (SqO "list" d2 ys m sl2) ∧ LexP A.in1 s (decide (xs.size < ys.size)) ((xs.toList.zip ys.toList).drop i) k ∧ R (.ok (.ret (.bool k))) s) := by
  have last : ∀ i, min xs.size ys.size ≤ i → Meets (Builtin.«list.__eq__.loop» ⟨[.ref x, .ref y, rawInt i, rawInt 0], []⟩)
      (fun A R s => s.heap.get? x = some (SqO "list" d1 xs n sl1) ∧ s.heap.get? y = some (SqO "list" d2 ys m sl2) ∧ LexP A.in1 s (decide (xs.size < ys.size)) ((xs.toList.zip ys.toList).drop i) k ∧ R (.ok (.ret (.bool k))) s) := by
    intro i hi prog w A R s ⟨gx, gy, hk, hR⟩
    have none_left : (xs.toList.zip ys.toList).drop i = [] := List.drop_of_length_le (by rw [List.length_zip, Array.length_toList, Array.length_toList]; exact hi)
    rw [none_left] at hk
    have ek := hk.done
    subst ek
    obtain ⟨hp, gs, dr, tk, os⟩ := s
    wp_walk using wpAny_loadPart' gx, wpAny_loadPart' gy
    rcases Nat.lt_or_ge i xs.size with hx | hx
    · have vx : xs[((i : Nat) : Int).toNat]? = some xs[i] := by simp [hx]
      have vy : ys[((i : Nat) : Int).toNat]? = none := by simp; omega
      rw [vx, vy]
      wp_walk using wpAny_loadPart' gx, wpAny_loadPart' gy
      exact hR
    · have vx : xs[((i : Nat) : Int).toNat]? = none := by simp; omega
      rw [vx]
      wp_walk using wpAny_loadPart' gx, wpAny_loadPart' gy
      exact hR
  intro j
  induction j with
  | zero => intro i hi; exact last i (by omega)
  | succ j ih =>
    intro i hi
    rcases Nat.lt_or_ge i (min xs.size ys.size) with lt | ge
    · intro prog w A R s ⟨gx, gy, hk, hR⟩
      have hx : i < xs.size := by omega
      have hy : i < ys.size := by omega
      have vx : xs[((i : Nat) : Int).toNat]? = some xs[i] := by simp [hx]
      have vy : ys[((i : Nat) : Int).toNat]? = some ys[i] := by simp [hy]
      have next : ((i : Int) + 1) = ((i + 1 : Nat) : Int) := by push_cast; rfl
      rw [zip_at hx hy] at hk
      obtain ⟨e, he, h1, h2⟩ := hk.step
      obtain ⟨hp, gs, dr, tk, os⟩ := s
      wp_walk using wpAny_loadPart' gx, wpAny_loadPart' gy
      rw [vx, vy]
      refine wpAny_bind (he prog w _ _ ?_)
      cases e with
      | true =>
        wp_walk
        rw [next]
        refine ⟨plainId_quiet plain_eq_loop _, codeAny_builtin entry_eq_loop ?_⟩
        rw [Around.under_plainId plain_eq_loop _]
        exact ih (i + 1) (by omega) prog w A R _ ⟨gx, gy, h1 rfl, hR⟩
      | false =>
        have h3 := fun {E} {Q} => h2 rfl prog w E Q
        wp_walk using wpAny_loadPart' gx, wpAny_loadPart' gy
        rw [vx, vy]
        wp_walk using h3
        exact hR
    · exact last i ge
theorem lst_lt (x y : Addr) (xs ys : Array Value) (n m : Nat) (d1 d2 : Option Addr) (sl1 sl2 : Array (Option Value)) (k : Bool) :
    Meets (Builtin.«list.__lt__» ⟨[.ref x, .ref y], []⟩)
      (fun A R s => s.heap.get? x = some (SqO "list" d1 xs n sl1) ∧ s.heap.get? y = some (SqO "list" d2 ys m sl2) ∧ LexP A.in1 s (decide (xs.size < ys.size)) (xs.toList.zip ys.toList) k ∧ R (.ok (.ret (.bool k))) s) := by
  intro prog w A R s ⟨gx, gy, hk, hR⟩
  have sub := AutoSeq1.sub_list_list
  obtain ⟨hp, gs, dr, tk, os⟩ := s
  wp_walk using wpAny_loadPart' gx, wpAny_loadPart' gy
  refine ⟨plainId_quiet plain_eq_loop _, codeAny_builtin entry_eq_loop ?_⟩
  rw [Around.under_plainId plain_eq_loop _]
  exact lst_turn x y xs ys n m d1 d2 sl1 sl2 k (min xs.size ys.size) 0 (by omega) prog w A R _ ⟨gx, gy, by simpa using hk, hR⟩
section
variable {A : Around} {s : Shared} {x y : Addr} {xs ys : Array Value} {k : Bool}
theorem sq_obj {T : String} {o : Obj} {n : Nat} (hc : o.cls = .type T) (hd : o.data = .seq xs n) : o = SqO T o.dict xs n o.slots := by
  cases o
  simp only at hc hd
  rw [hc, hd]
theorem rc_tup {o1 o2 : Obj} {n m : Nat} (g1 : s.heap.get? x = some o1) (c1 : o1.cls = .type "tuple") (e1 : o1.data = .seq xs n) (g2 : s.heap.get? y = some o2) (c2 : o2.cls = .type "tuple") (e2 : o2.data = .seq ys m) (hu : A.units < cLine)
    (h : LexP A.in1 s (decide (xs.size < ys.size)) (xs.toList.zip ys.toList) k) : RcLt A s (.ref x) (.ref y) k := fun prog w E Q hQ => by
  have q : (Value.bool k) ≠ Value.notImplemented ∧ Q (.bool k) s := ⟨(fun z => nomatch z), hQ⟩
  exact richCompare_meets_room (op := .Lt) ⟨_, g1, c1⟩ ⟨_, g2, c2⟩ F.slot_tuple_lt F.entry_tuple_lt (F.args_tuple_lt_2 _ _) (tup_lt x y xs ys n m _ _ _ _ k) ⟨g1.trans (congrArg some (sq_obj c1 e1)), g2.trans (congrArg some (sq_obj c2 e2)), h, q⟩ hu
theorem rc_lst {o1 o2 : Obj} {n m : Nat} (g1 : s.heap.get? x = some o1) (c1 : o1.cls = .type "list") (e1 : o1.data = .seq xs n) (g2 : s.heap.get? y = some o2) (c2 : o2.cls = .type "list") (e2 : o2.data = .seq ys m) (hu : A.units < cLine)
    (h : LexP A.in1 s (decide (xs.size < ys.size)) (xs.toList.zip ys.toList) k) : RcLt A s (.ref x) (.ref y) k := fun prog w E Q hQ => by
  have q : (Value.bool k) ≠ Value.notImplemented ∧ Q (.bool k) s := ⟨(fun z => nomatch z), hQ⟩
  exact richCompare_meets_room (op := .Lt) ⟨_, g1, c1⟩ ⟨_, g2, c2⟩ F.slot_list_lt F.entry_list_lt (F.args_list_lt_2 _ _) (lst_lt x y xs ys n m _ _ _ _ k) ⟨g1.trans (congrArg some (sq_obj c1 e1)), g2.trans (congrArg some (sq_obj c2 e2)), h, q⟩ hu
theorem own_lst {prog : Program} {w : World} {E Q : Value → Shared → Prop} {o1 o2 : Obj} {n m : Nat} (g1 : s.heap.get? x = some o1) (c1 : o1.cls = .type "list") (e1 : o1.data = .seq xs n) (g2 : s.heap.get? y = some o2) (c2 : o2.cls = .type "list") (e2 : o2.data = .seq ys m)
    (h : LexP A.in1 s (decide (xs.size < ys.size)) (xs.toList.zip ys.toList) k) (hQ : Q (.bool k) s) : wpAny (model prog w) A (call (.builtin "list.__lt__") [.ref x, .ref y]) Q E s :=
  call_meets F.slot_list_lt ⟨_, g1, c1⟩ F.entry_list_lt (F.args_list_lt_2 _ _) (lst_lt x y xs ys n m _ _ _ _ k) ⟨g1.trans (congrArg some (sq_obj c1 e1)), g2.trans (congrArg some (sq_obj c2 e2)), h, hQ⟩
end
/-! ### < of two data -/
theorem nil_lex {xs ys : List PyData} (h : xs = [] ∨ ys = []) : decide (xs.length < ys.length) = lexL (keyToksAll xs) (keyToksAll ys) := by
  cases xs with
  | nil =>
    cases ys with
    | nil => exact (lex_irrefl (O := itemOrd) _).symm
    | cons y ys =>
      rw [toks_all_cons]
      simp only [keyToksAll]
      show _ = PyProof.Rows.lexLt itemOrd _ _
      rw [lex_diff (O := itemOrd) (by simp)]
      simp [itemLt]
  | cons x xs =>
    cases ys with
    | nil =>
      rw [toks_all_cons]
      simp only [keyToksAll]
      show _ = PyProof.Rows.lexLt itemOrd _ _
      rw [lex_diff (O := itemOrd) (by simp)]
      simp [itemLt]
    | cons y ys => rcases h with h | h <;> cases h
mutual
theorem lt_deep (A : Around) (s : Shared) : ∀ (p q : PyData) (u v : Value) (as bs : List Addr), Reads s.heap u p as → Reads s.heap v q bs → p.canLay0 = true → q.canLay0 = true → ltOk p q = true → A.units + min p.depth q.depth < cLine → RcLt A s u v (dataLt p q)
  | .int i, q, _, _, _, _, ru, rv, _, _, ok, _ => by
    cases q with
    | int j => cases ru; cases rv; exact fun prog w E Q hQ => P.lt_int (by rw [dataLt_int] at hQ; exact hQ)
    | _ => simp [ltOk] at ok
  | .str i, q, _, _, _, _, ru, rv, _, _, ok, _ => by
    cases q with
    | str j => cases ru; cases rv; exact fun prog w E Q hQ => P.lt_str (by rw [dataLt_str] at hQ; exact hQ)
    | _ => simp [ltOk] at ok
  | .list xs, q, _, _, _, _, ru, rv, cp, cq, ok, room => by
    cases q with
    | list ys =>
      cases ru with
      | list g1 c1 e1 r1 =>
        cases rv with
        | list g2 c2 e2 r2 => exact rc_lst g1 c1 e1 g2 c2 e2 (room_here room) (by
          have n1 := ReadsAll.length _ _ _ r1
          have n2 := ReadsAll.length _ _ _ r2
          rw [Array.length_toList] at n1 n2
          rw [n1, n2]
          exact lt_row A.in1 s xs ys _ _ _ _ r1 r2 cp cq (by simpa [ltOk] using ok) (room_in room))
    | _ => simp [ltOk] at ok
  | .tuple xs, q, _, _, _, _, ru, rv, cp, cq, ok, room => by
    cases q with
    | tuple ys =>
      cases ru with
      | tuple g1 c1 e1 r1 =>
        cases rv with
        | tuple g2 c2 e2 r2 => exact rc_tup g1 c1 e1 g2 c2 e2 (room_here room) (by
          have n1 := ReadsAll.length _ _ _ r1
          have n2 := ReadsAll.length _ _ _ r2
          rw [Array.length_toList] at n1 n2
          rw [n1, n2]
          exact lt_row A.in1 s xs ys _ _ _ _ r1 r2 cp cq (by simpa [ltOk] using ok) (room_in room))
    | _ => simp [ltOk] at ok
  | .none, q, _, _, _, _, _, _, _, _, ok, _ => by cases q <;> simp [ltOk] at ok
  | .bool _, q, _, _, _, _, _, _, _, _, ok, _ => by cases q <;> simp [ltOk] at ok
  | .dict _, q, _, _, _, _, _, _, _, _, ok, _ => by cases q <;> simp [ltOk] at ok
theorem lt_row (A : Around) (s : Shared) : ∀ (xs ys : List PyData) (us vs : List Value) (as bs : List Addr), ReadsAll s.heap us xs as → ReadsAll s.heap vs ys bs → PyData.canLayAll0 xs = true → PyData.canLayAll0 ys = true → ltOks xs ys = true →
    A.units + min (PyData.depthAll xs) (PyData.depthAll ys) < cLine → LexP A s (decide (xs.length < ys.length)) (us.zip vs) (lexL (keyToksAll xs) (keyToksAll ys))
  | [], ys, _, _, _, _, ru, _, _, _, _, _ => by
    cases ru
    rw [← nil_lex (.inl rfl), List.zip_nil_left]
    exact .nil
  | x :: xs, [], _, _, _, _, _, rv, _, _, _, _ => by
    cases rv
    rw [← nil_lex (.inr rfl), List.zip_nil_right]
    exact .nil
  | x :: xs, y :: ys, _, _, _, _, ru, rv, cx, cy, ok, room => by
    have hl : decide ((x :: xs).length < (y :: ys).length) = decide (xs.length < ys.length) := decide_eq_decide.mpr (by rw [List.length_cons, List.length_cons]; omega)
    cases ru with
    | cons r1 r2 =>
      cases rv with
      | cons q1 q2 =>
        rw [hl, List.zip_cons_cons]
        have he := eqAt_reads x y A s _ _ _ _ r1 q1 (can_cons cx).1 (can_cons cy).1 (room_head room)
        cases e : PyData.eqv x y with
        | true =>
          rw [e] at he
          rw [all_yes (can_cons cx).1 e]
          exact .eq he (lt_row A s xs ys _ _ _ _ r2 q2 (can_cons cx).2 (can_cons cy).2 (ltOks_yes ok e) (room_tail room))
        | false =>
          rw [e] at he
          rw [all_no (can_cons cx).1 (ltOks_no ok e) e]
          exact .ne he (lt_deep A s x y _ _ _ _ r1 q1 (can_cons cx).1 (can_cons cy).1 (ltOks_no ok e) (room_head room))
end
/-! ### as sorting compares -/
section
variable {prog : Program} {w : World} {A : Around} {E : Value → Shared → Prop} {s : Shared}
/-- flag: both are of one type, that isn't tuple -/
theorem sort_one {flag : Bool} {p q : PyData} {u v : Value} {as bs : List Addr} {Q : Bool → Shared → Prop} (ru : Reads s.heap u p as) (rv : Reads s.heap v q bs) (cp : p.canLay0 = true) (cq : q.canLay0 = true) (ok : ltOk p q = true) (nt : flag = true → ∀ xs, p ≠ .tuple xs)
    (room : A.units + min p.depth q.depth < cLine) (hQ : Q (dataLt p q) s) : wpAny (model prog w) A (oneLt' flag u v) Q E s := by
  have plain : wpAny (model prog w) A (oneLt' false u v) Q E s := kat_one u v (lt_deep A s p q u v as bs ru rv cp cq ok room prog w E _ hQ)
  cases flag with
  | false => exact plain
  | true =>
    cases p with
    | int i =>
      cases q with
      | int j => cases ru; cases rv; exact oneLt_int (by rw [dataLt_int] at hQ; exact hQ)
      | _ => simp [ltOk] at ok
    | str i =>
      cases q with
      | str j => cases ru; cases rv; exact oneLt_str (by rw [dataLt_str] at hQ; exact hQ)
      | _ => simp [ltOk] at ok
    | list xs =>
      cases q with
      | list ys =>
        cases ru with
        | list g1 c1 e1 r1 =>
          cases rv with
          | list g2 c2 e2 r2 =>
            have n1 := ReadsAll.length _ _ _ r1
            have n2 := ReadsAll.length _ _ _ r2
            rw [Array.length_toList] at n1 n2
            have row := lt_row A.in1 s xs ys _ _ _ _ r1 r2 cp cq (by simpa [ltOk] using ok) (room_in room)
            rw [← n1, ← n2] at row
            rw [oneLt'_eq, if_pos rfl]
            exact wpAny_bind (wpAny_cRoomFor (room_here room) (wpAny_bind (wpAny_callSpecialIfBound?_slot (T := "list") ⟨_, g1, c1⟩ F.slot_list_lt (own_lst g1 c1 e1 g2 c2 e2 row (wpAny_truthy_bool hQ)))))
      | _ => simp [ltOk] at ok
    | tuple xs => exact absurd rfl (nt rfl xs)
    | _ => cases q <;> simp [ltOk] at ok
/-- behind the first place the flag says nothing -/
theorem kat_row {flag fin k : Bool} {Q : Bool → Shared → Prop} (hQ : Q k s) : ∀ (l : List (Value × Value)) (i : Nat), (flag && i == 0) = false → LexP A s fin l k → KatLex prog w A flag fin Q l i s
  | [], i, hi, h => by
    have ek := h.done
    subst ek
    exact kat_nil hQ
  | (p, q) :: r, i, hi, h => by
    obtain ⟨e, he, h1, h2⟩ := h.step
    refine kat_cons (he prog w _ _ (kat_go (fun z => ?_) fun z => ?_))
    · exact kat_yes (kat_row hQ r (i + 1) (by cases flag <;> simp) (h1 z))
    · refine kat_no ?_
      rw [hi]
      exact kat_one p q (h2 z prog w _ _ hQ)
theorem kat_tup {flag : Bool} {xs ys : List PyData} {us vs : List Value} {as bs : List Addr} {Q : Bool → Shared → Prop} (ru : ReadsAll s.heap us xs as) (rv : ReadsAll s.heap vs ys bs) (cx : PyData.canLayAll0 xs = true) (cy : PyData.canLayAll0 ys = true) (ok : ltOks xs ys = true)
    (room : A.units + min (PyData.depthAll xs) (PyData.depthAll ys) < cLine) (nt : flag = true → ∀ x r t, xs = x :: r → x ≠ .tuple t) (hQ : Q (lexL (keyToksAll xs) (keyToksAll ys)) s) : KatLex prog w A flag (decide (xs.length < ys.length)) Q (us.zip vs) 0 s := by
  have row := lt_row A s xs ys us vs as bs ru rv cx cy ok room
  cases hf : flag with
  | false => exact kat_row hQ _ 0 rfl row
  | true =>
    cases ru with
    | nil => rw [List.zip_nil_left] at row ⊢; have ek := row.done; rw [ek] at hQ; exact kat_nil hQ
    | cons r1 r2 =>
      cases rv with
      | nil => rw [List.zip_nil_right] at row ⊢; have ek := row.done; rw [ek] at hQ; exact kat_nil hQ
      | cons q1 q2 =>
        rename_i x xs' _ _ _ _ y ys' _ _
        rw [List.zip_cons_cons] at row ⊢
        have he := eqAt_reads x y A s _ _ _ _ r1 q1 (can_cons cx).1 (can_cons cy).1 (room_head room)
        refine kat_cons (he prog w _ _ ?_)
        cases e : PyData.eqv x y with
        | true =>
          refine kat_yes (kat_row hQ _ 1 (by simp) ?_)
          have hl : decide ((x :: xs').length < (y :: ys').length) = decide (xs'.length < ys'.length) := decide_eq_decide.mpr (by rw [List.length_cons, List.length_cons]; omega)
          rw [hl, all_yes (can_cons cx).1 e]
          exact lt_row A s xs' ys' _ _ _ _ r2 q2 (can_cons cx).2 (can_cons cy).2 (ltOks_yes ok e) (room_tail room)
        | false =>
          rw [all_no (can_cons cx).1 (ltOks_no ok e) e] at hQ
          exact kat_no (sort_one r1 q1 (can_cons cx).1 (can_cons cy).1 (ltOks_no ok e) (fun _ t => nt hf x xs' t rfl) (room_head room) hQ)
end
/-! ### insertion -/
def insB {α : Type} (lt : α → α → Bool) (x : α) : List α → List α
  | [] => [x]
  | y :: r => if lt y x then y :: insB lt x r else x :: y :: r
def isort {α : Type} (lt : α → α → Bool) : List α → List α
  | [] => []
  | x :: r => insB lt x (isort lt r)
section
variable {α β : Type} {lt : α → α → Bool}
theorem insB_perm (x : α) : ∀ l : List α, (insB lt x l).Perm (x :: l)
  | [] => List.Perm.refl _
  | y :: r => by
    unfold insB
    split
    · exact ((insB_perm x r).cons y).trans (List.Perm.swap x y r)
    · exact List.Perm.refl _
theorem isort_perm : ∀ l : List α, (isort lt l).Perm l
  | [] => List.Perm.refl _
  | x :: r => (insB_perm x _).trans ((isort_perm r).cons x)
open SrtO in
theorem insB_ok (O : Swo lt) (x : α) : ∀ {l : List α}, Srtd lt l → Srtd lt (insB lt x l) ∧ SrtO.Stb lt (insB lt x l) (x :: l)
  | [], _ => ⟨srtd_one x, SrtO.Stb.refl _⟩
  | y :: r, h => by
    unfold insB
    split
    · rename_i e
      obtain ⟨i1, i2⟩ := insB_ok O x (l := r) (List.pairwise_cons.mp h).2
      refine ⟨List.pairwise_cons.mpr ⟨fun b hb => ?_, i1⟩, ?_⟩
      · rcases List.mem_cons.mp ((insB_perm x r).mem_iff.mp hb) with z | z
        · rw [z]; exact O.asym _ _ e
        · exact srtd_head h b z
      · have a1 : SrtO.Stb lt ([y] ++ insB lt x r) ([y] ++ (x :: r)) := (SrtO.Stb.refl [y]).app i2
        have a2 : SrtO.Stb lt (([y] ++ [x]) ++ r) (([x] ++ [y]) ++ r) := (SrtO.Stb.swap O (A := [y]) (B := [x]) fun a ha b hb => by
          rw [List.mem_singleton.mp ha, List.mem_singleton.mp hb]; exact e).app (SrtO.Stb.refl r)
        exact a1.trans a2
    · rename_i e
      have e' : lt y x = false := by simpa using e
      exact ⟨List.pairwise_cons.mpr ⟨fun b hb => by
        rcases List.mem_cons.mp hb with z | z
        · rw [z]; exact e'
        · exact O.tr x y b e' (srtd_head h b z), h⟩, SrtO.Stb.refl _⟩
open SrtO in
theorem isort_ok (O : Swo lt) : ∀ l : List α, Srtd lt (isort lt l) ∧ SrtO.Stb lt (isort lt l) l
  | [] => ⟨List.Pairwise.nil, SrtO.Stb.refl _⟩
  | x :: r => by
    obtain ⟨h1, h2⟩ := isort_ok O r
    obtain ⟨i1, i2⟩ := insB_ok O x h1
    exact ⟨i1, i2.trans ((SrtO.Stb.refl [x]).app h2)⟩
theorem insB_map {lu : β → β → Bool} (f : α → β) (x : α) : ∀ {l : List α}, (∀ y ∈ l, lu (f y) (f x) = lt y x) → (insB lt x l).map f = insB lu (f x) (l.map f)
  | [], _ => rfl
  | y :: r, h => by
    show (if lt y x then y :: insB lt x r else x :: y :: r).map f = if lu (f y) (f x) then f y :: insB lu (f x) (r.map f) else f x :: f y :: r.map f
    rw [h y List.mem_cons_self]
    split
    · rw [List.map_cons, insB_map f x fun z hz => h z (List.mem_cons_of_mem _ hz)]
    · rfl
theorem isort_map {lu : β → β → Bool} (f : α → β) : ∀ {l : List α}, (∀ x ∈ l, ∀ y ∈ l, lu (f x) (f y) = lt x y) → (isort lt l).map f = isort lu (l.map f)
  | [], _ => rfl
  | x :: r, h => by
    show (insB lt x (isort lt r)).map f = insB lu (f x) (isort lu (r.map f))
    rw [← isort_map f (l := r) fun a ha b hb => h a (List.mem_cons_of_mem _ ha) b (List.mem_cons_of_mem _ hb)]
    exact insB_map f x fun y hy => h y (List.mem_cons_of_mem _ ((isort_perm r).mem_iff.mp hy)) x List.mem_cons_self
end
theorem swo_key {α : Type} (k : α → List (Int ⊕ List Nat)) : SrtO.Swo fun v u : α => lexL (k v) (k u) := by
  refine ⟨fun x y h => ?_, fun x y z h1 h2 => ?_⟩
  · cases e : lexL (k y) (k x) with
    | false => rfl
    | true =>
      have := lex_trans (O := itemOrd) _ _ _ h e
      rw [lex_irrefl] at this
      cases this
  · cases e : lexL (k z) (k x) with
    | false => rfl
    | true =>
      rcases lex_negTrans (O := itemOrd) _ (k y) _ e with q | q
      · exact absurd (q.symm.trans h2) (by decide)
      · exact absurd (q.symm.trans h1) (by decide)
/-! ### sorted -/
def tagP : PyData → Option String
  | .int _ => some "int"
  | .str _ => some "str"
  | .list _ => some "list"
  | .tuple _ => some "tuple"
  | _ => none
def tag1 : PyData → Option String
  | .tuple (x :: _) => tagP x
  | _ => none
def allTag (f : PyData → Option String) (ps : List PyData) (t : String) : Bool := ps.all fun p => decide (f p = some t)
def srtOk (ps : List PyData) : Bool := decide (ps.length < 2) || ((ps.all SeqAt.shaped) && (ps.all fun x => ps.all fun y => ltOk x y) &&
  (allTag tagP ps "int" || allTag tagP ps "str" || allTag tagP ps "list" || allTag tag1 ps "int" || allTag tag1 ps "str" || allTag tag1 ps "list" || allTag tag1 ps "tuple"))
theorem looks_tag {M : Model} {h : Heap} {v : Value} {p : PyData} {as : List Addr} {t : String} (r : Reads h v p as) (e : tagP p = some t) : Looks M h (typeOf v) (.type t) := by
  cases r with
  | int i tk => cases e; exact Looks.now
  | str x tk => cases e; exact Looks.now
  | list h1 h2 h3 h4 => cases e; rw [← h2]; exact (Looks.ld h1).andThen .now
  | tuple h1 h2 h3 h4 => cases e; rw [← h2]; exact (Looks.ld h1).andThen .now
  | _ => cases e
abbrev RdsP (h : Heap) : List PyData → List Value → Prop := Paired fun p v => ∃ as, Reads h v p as
theorem rds_mem {h : Heap} : ∀ {ps : List PyData} {vs : List Value}, RdsP h ps vs → ∀ v ∈ vs, ∃ p ∈ ps, ∃ as, Reads h v p as := fun r => by
  induction r with
  | nil => exact fun v hv => absurd hv (by simp)
  | cons h1 _ ih =>
    intro v hv
    rcases List.mem_cons.mp hv with z | z
    · rw [z]; exact ⟨_, List.mem_cons_self, h1⟩
    · obtain ⟨p, hp, q⟩ := ih v z; exact ⟨p, List.mem_cons_of_mem _ hp, q⟩
theorem rds_all {h : Heap} : ∀ {ps : List PyData} {vs : List Value} {as : List Addr}, ReadsAll h vs ps as → RdsP h ps vs
  | [], _, _, r => by cases r; exact .nil
  | _ :: _, _, _, r => by cases r with | cons r1 r2 => exact .cons ⟨_, r1⟩ (rds_all r2)
theorem kat_tups {h : Heap} {t : String} : ∀ {ps : List PyData} {vs : List Value}, RdsP h ps vs → allTag tag1 ps t = true → ∃ fs, KatTups h vs fs ∧ fs.length = vs.length ∧ ∀ (M : Model), ∀ f ∈ fs, Looks M h (typeOf f) (.type t) := fun r => by
  induction r with
  | nil => exact fun _ => ⟨[], .nil, rfl, fun _ f hf => absurd hf (by simp)⟩
  | @cons p v ps vs h1 _ ih =>
    intro ht
    have ht' : (decide (tag1 p = some t) && ps.all fun p => decide (tag1 p = some t)) = true := ht
    rw [Bool.and_eq_true, decide_eq_true_iff] at ht'
    obtain ⟨fs, k1, k2, k3⟩ := ih ht'.2
    obtain ⟨as, r⟩ := h1
    cases p with
    | tuple xs =>
      cases xs with
      | nil => exact absurd ht'.1 (by simp [tag1])
      | cons x xs =>
        cases r with
        | @tuple a o ws n _ _ g1 g2 g3 g4 =>
          generalize ew : ws.toList = wl at g4
          cases g4 with
          | @cons f wr _ _ _ _ g5 g6 =>
            refine ⟨f :: fs, KatTups.cons g1 g2 g3 (by rw [← Array.getElem?_toList, ew]; rfl) k1, by simp [k2], fun M f' hf => ?_⟩
            rcases List.mem_cons.mp hf with z | z
            · rw [z]; exact looks_tag g5 ht'.1
            · exact k3 M f' z
    | _ => exact absurd ht'.1 (by simp [tag1])
section
variable {prog : Program} {w : World} {A : Around} {s : Shared}
noncomputable abbrev kyV (h : Heap) (v : Value) : List (Int ⊕ List Nat) := keyToks (SeqAt.readOf h v)
theorem key_of {h : Heap} {v : Value} {p : PyData} {as : List Addr} (r : Reads h v p as) (c : p.canLay0 = true) : kyV h v = keyToks p := by
  unfold kyV
  rw [SeqAt.readOf_eq c r]
theorem srt_able {h0 : Heap} {a : Addr} {ps : List PyData} {vs : List Value} (hu : A.units + 64 < cLine) (hp : RdsP h0 ps vs) (hk : ∀ b o, h0.get? b = some o → b ≠ a ∧ s.heap.get? b = some o) (ok : srtOk ps = true) (h2 : 2 ≤ vs.length) :
    SrtO.SortableO prog w A s a vs fun v u => lexL (kyV h0 v) (kyV h0 u) := by
  have hlen : ps.length = vs.length := Paired.length hp
  unfold srtOk at ok
  rw [Bool.or_eq_true, decide_eq_true_iff] at ok
  have ok := ok.resolve_left (by omega)
  obtain ⟨ok1, ok3⟩ := Bool.and_eq_true_iff.mp ok
  obtain ⟨oks, okl⟩ := Bool.and_eq_true_iff.mp ok1
  have sh : ∀ p ∈ ps, SeqAt.shaped p = true := fun p hp => List.all_eq_true.mp oks p hp
  have lt : ∀ p ∈ ps, ∀ q ∈ ps, ltOk p q = true := fun p hp q hq => List.all_eq_true.mp (List.all_eq_true.mp okl p hp) q hq
  intro h' keep
  have kp : ∀ b o, h0.get? b = some o → h'.get? b = some o := fun b o e => keep b o (hk b o e).1 (hk b o e).2
  have hp' : RdsP h' ps vs := L2.Paired.mapP hp fun p v ⟨as, r⟩ => ⟨as, Reads.keeps kp r⟩
  have at_ : ∀ v ∈ vs, ∃ p ∈ ps, (∃ as, Reads h' v p as) ∧ kyV h0 v = keyToks p := fun v hv => by
    obtain ⟨p, hm, as, r⟩ := rds_mem hp v hv
    exact ⟨p, hm, ⟨as, Reads.keeps kp r⟩, key_of r (SeqAt.canLay_of_shaped (sh p hm))⟩
  have room : ∀ p ∈ ps, ∀ q : PyData, A.units + min p.depth q.depth < cLine := fun p hm q => SeqAt.room_of_shaped (sh p hm) hu
  have one : ∀ t : String, t ≠ "tuple" → allTag tagP ps t = true → ∃ κ, (∀ (Q : SortKind → Shared → Prop) (E : Value → Shared → Prop), Q κ { s with heap := h' } → wpAny (model prog w) A (keyKind' vs.toArray) Q E { s with heap := h' }) ∧ SrtO.Cmp prog w A { s with heap := h' } κ (fun p => p.1 ∈ vs) (SrtO.lt2 fun v u => lexL (kyV h0 v) (kyV h0 u)) := fun t hne ht => by
    have tg : ∀ p ∈ ps, tagP p = some t := fun p hm => of_decide_eq_true (List.all_eq_true.mp ht p hm)
    refine ⟨oneType', fun Q E hq => kas_kind (s := { s with heap := h' }) (T := .type t) h2 (fun v hv => ?_) (by simp [hne]) (by simp) hq, fun p q hm hm' => ?_⟩
    · obtain ⟨p, hm, ⟨as, r⟩, _⟩ := at_ v hv
      exact looks_tag r (tg p hm)
    · obtain ⟨x, xm, ⟨as, rx⟩, ex⟩ := at_ p.1 hm
      obtain ⟨y, ym, ⟨bs, ry⟩, ey⟩ := at_ q.1 hm'
      rw [keyLt'_oneType]
      refine sort_one rx ry (SeqAt.canLay_of_shaped (sh x xm)) (SeqAt.canLay_of_shaped (sh y ym)) (lt x xm y ym) (fun _ xs e => ?_) (room x xm y) ⟨rfl, ?_⟩
      · have := tg x xm
        rw [e] at this
        exact hne (Option.some.inj this).symm
      · show dataLt x y = lexL (kyV h0 p.1) (kyV h0 q.1)
        rw [ex, ey]; rfl
  have tup : ∀ t : String, allTag tag1 ps t = true → ∃ κ, (∀ (Q : SortKind → Shared → Prop) (E : Value → Shared → Prop), Q κ { s with heap := h' } → wpAny (model prog w) A (keyKind' vs.toArray) Q E { s with heap := h' }) ∧ SrtO.Cmp prog w A { s with heap := h' } κ (fun p => p.1 ∈ vs) (SrtO.lt2 fun v u => lexL (kyV h0 v) (kyV h0 u)) := fun t ht => by
    obtain ⟨fs, k1, k2, k3⟩ := kat_tups hp' ht
    have tg : ∀ p ∈ ps, tag1 p = some t := fun p hm => of_decide_eq_true (List.all_eq_true.mp ht p hm)
    refine ⟨tuples' (Value.type t != Value.type "tuple"), fun Q E hq => kat_kind (s := { s with heap := h' }) (T := .type t) k1 (by rw [k2]; omega) (fun v hv => k3 _ v hv) (by simp) hq, fun p q hm hm' => ?_⟩
    obtain ⟨x, xm, ⟨as, rx⟩, ex⟩ := at_ p.1 hm
    obtain ⟨y, ym, ⟨bs, ry⟩, ey⟩ := at_ q.1 hm'
    have tx := tg x xm
    have ty := tg y ym
    have hlt := lt x xm y ym
    have hr := room x xm y
    have cx := SeqAt.canLay_of_shaped (sh x xm)
    have cy := SeqAt.canLay_of_shaped (sh y ym)
    have hv : lexL (kyV h0 p.1) (kyV h0 q.1) = dataLt x y := by rw [ex, ey]; rfl
    show wpAny (model prog w) A (keyLt' (tuples' _) p.1 q.1) (fun r s' => s' = { s with heap := h' } ∧ r = lexL (kyV h0 p.1) (kyV h0 q.1)) _ _
    rw [hv]
    generalize p.1 = pv at rx ⊢
    generalize q.1 = qv at ry ⊢
    cases x with
    | tuple xs =>
      cases y with
      | tuple ys =>
        cases rx with
        | @tuple _ _ _ _ _ _ g1 g2 g3 g4 =>
          cases ry with
          | @tuple _ _ _ _ _ _ e1 e2 e3 e4 =>
            have n1 := ReadsAll.length _ _ _ g4
            have n2 := ReadsAll.length _ _ _ e4
            rw [Array.length_toList] at n1 n2
            refine kat_lt g1 g3 e1 e3 (by
              rw [n1, n2]
              refine kat_tup g4 e4 cx cy (by simpa [ltOk] using hlt) (by have := room_in hr; omega) (fun hb z r tl e he => ?_) ⟨rfl, (dataLt_tuple xs ys).symm⟩
              rw [e, he] at tx
              have : t = "tuple" := (Option.some.inj tx).symm
              rw [this] at hb
              exact absurd hb (by simp))
      | _ => exact absurd ty (by simp [tag1])
    | _ => exact absurd tx (by simp [tag1])
  simp only [Bool.or_eq_true] at ok3
  rcases ok3 with (((((z | z) | z) | z) | z) | z) | z
  · exact one _ (by decide) z
  · exact one _ (by decide) z
  · exact one _ (by decide) z
  · exact tup _ z
  · exact tup _ z
  · exact tup _ z
  · exact tup _ z
end
end PD
set_option Elab.async false
set_option linter.all false
set_option maxRecDepth 100000
set_option maxHeartbeats 4000000
/-! PD3t: sorted, its meaning and its rule. -/
namespace PD
open PySem PySem.Spec PyProof.Rows L2
variable [Tb]
/-! ### the meaning -/
def srtD (ps : List PyData) (ds : List D) : List D := (isort (fun a b => lexL a.1 b.1) ((ps.map PySem.W.keyToks).zip ds)).map (·.2)
def lstS (x : D) (g : G) : Option (List D) := match x with
  | .ro ds => some ds
  | .ref n => (match g[n]? with
    | some (.lst ds) => some ds
    | _ => none)
  | _ => none
def dSort (x : D) (g : G) : R D := match lstS x g with
  | some ds => (match allP (toP g 69) ds with
    | some ps => if srtOk ps then .ok (.ref g.length) (g ++ [.lst (srtD ps ds)]) else .bad
    | none => .bad)
  | none => .bad
abbrev S4 := (List (Int ⊕ List Nat) × D) × (V × Value)
theorem zip4 {h : Heap} {K : PySem.W.Frag} {A : List Addr} {H : Hp} : ∀ {ps : List PyData} {ds : List D} {vs : List V} {us : List Value}, RdsP h ps us → (∀ p ∈ ps, p.canLay0 = true) → RpL K A H ds vs → Vals vs us →
    ∃ l : List S4, l.map (·.1) = (ps.map PySem.W.keyToks).zip ds ∧ l.map (·.2.2) = us ∧ ∀ x ∈ l, Rp K A H x.1.2 x.2.1 ∧ L2.RelV x.2.1 x.2.2 ∧ kyV h x.2.2 = x.1.1
  | [], _, _, _, .nil, _, r, rv => ⟨[], by simp, by simp, fun x hx => absurd hx (by simp)⟩
  | p :: ps, _, _, u :: us, .cons h1 hr, hc, r, rv => by
    cases rv with
    | @cons v _ vs _ ra rb =>
      cases r with
      | @cons d _ ds _ r1 r2 =>
        obtain ⟨l, e1, e2, e3⟩ := zip4 hr (fun p hp => hc p (List.mem_cons_of_mem _ hp)) r2 rb
        obtain ⟨as, h1⟩ := h1
        refine ⟨((PySem.W.keyToks p, d), (v, u)) :: l, by simp [e1], by simp [e2], fun x hx => ?_⟩
        rcases List.mem_cons.mp hx with z | z
        · rw [z]; exact ⟨r1, ra, key_of h1 (hc p List.mem_cons_self)⟩
        · exact e3 x z
theorem rpl_map {K : PySem.W.Frag} {A : List Addr} {H : Hp} {α : Type} (f : α → D) (k : α → V) : ∀ l : List α, (∀ x ∈ l, Rp K A H (f x) (k x)) → RpL K A H (l.map f) (l.map k)
  | [], _ => .nil
  | x :: l, h => .cons (h x List.mem_cons_self) (rpl_map f k l fun y hy => h y (List.mem_cons_of_mem _ hy))
theorem vals_map {α : Type} (f : α → V) (k : α → Value) : ∀ l : List α, (∀ x ∈ l, L2.RelV (f x) (k x)) → Vals (l.map f) (l.map k)
  | [], _ => .nil
  | x :: l, h => .cons (h x List.mem_cons_self) (vals_map f k l fun y hy => h y (List.mem_cons_of_mem _ hy))
theorem call_sort {X : Cx} (hu : X.A.units + 100 < cLine) : CallR X (.builtin "sorted") (fun vs H Q => ∃ A g x, Rel X.K A g H ∧ RpL X.K A H [x] vs ∧ (dSort x g).sat (GoD X.K A H Q) NoE) := by
  intro pins s σ H vs us Q I r ⟨A, g, x, rg, hx, q⟩
  cases hx with
  | @cons _ v _ _ hx hn =>
    cases hn
    unfold dSort at q
    split at q
    · rename_i ds eds
      split at q
      · rename_i ps eps
        split at q
        · rename_i ok
          have hs : ∃ a ws, v = .ref a ∧ SqL X.K H a ws ∧ RpL X.K A H ds ws := by
            unfold lstS at eds
            split at eds
            · cases eds
              cases hx with
              | ro h1 h2 => exact ⟨_, _, rfl, h1.sq, h2⟩
            · rename_i n
              split at eds
              · rename_i xs en
                cases eds
                cases hx with
                | ref ha =>
                  obtain ⟨ws, h1, h2⟩ := rg.obj _ _ _ en ha
                  exact ⟨_, ws, rfl, .of h1, h2⟩
              · cases eds
            · cases eds
          obtain ⟨a, ws, rfl, hl, hr⟩ := hs
          rw [Vals.ref1 r]
          obtain ⟨its, rv, hli, hz⟩ := I.list hl
          obtain ⟨as, ra⟩ := Dp.readsAll I ps ws its (allP_ok (toP_ok rg 69) hr eps) rv
          have rds := rds_all ra
          have hc : 2 ≤ its.length → ∀ p ∈ ps, p.canLay0 = true := fun h2 p hp => by
            have hlen : ps.length = its.length := Paired.length rds
            unfold srtOk at ok
            rw [Bool.or_eq_true, decide_eq_true_iff] at ok
            have ok := ok.resolve_left (by omega)
            exact SeqAt.canLay_of_shaped (List.all_eq_true.mp (Bool.and_eq_true_iff.mp (Bool.and_eq_true_iff.mp ok).1).1 p hp)
          refine SrtO.sorted_ord (swo_key (kyV s.heap)) hli.isList (by rw [← rv.length]; exact hz) (fun h2 h₁ a' _ kk => srt_able (s := { s with heap := h₁ }) (by show X.A.units + 1 + 1 + 64 < cLine; omega) rds kk ok h2) fun out h1 h2 => ?_
          have fin : ∃ ys, Vals ys out ∧ RpL X.K A H (srtD ps ds) ys := by
            by_cases h3 : 2 ≤ its.length
            · obtain ⟨l, e1, e2, e3⟩ := zip4 rds (hc h3) hr rv
              have ko := isort_ok (swo_key (kyV s.heap)) its
              have eo : out = isort (fun v u => lexL (kyV s.heap v) (kyV s.heap u)) its := SrtO.stb_uniq (swo_key (kyV s.heap)) h1 ko.1 (h2.trans ⟨ko.2.perm.symm, fun x => (ko.2.cls x).symm⟩)
              have m1 : (isort (fun a b : S4 => lexL a.1.1 b.1.1) l).map (·.1) = isort (fun a b => lexL a.1 b.1) ((ps.map PySem.W.keyToks).zip ds) := by
                rw [isort_map (lu := fun a b => lexL a.1 b.1) (fun x : S4 => x.1) fun _ _ _ _ => rfl, e1]
              have m2 : (isort (fun a b : S4 => lexL a.1.1 b.1.1) l).map (·.2.2) = out := by
                rw [isort_map (lu := fun v u => lexL (kyV s.heap v) (kyV s.heap u)) (fun x : S4 => x.2.2) fun x hx y hy => by rw [(e3 x hx).2.2, (e3 y hy).2.2], e2, eo]
              have mem : ∀ x ∈ isort (fun a b : S4 => lexL a.1.1 b.1.1) l, x ∈ l := fun x hx => (isort_perm l).mem_iff.mp hx
              refine ⟨(isort (fun a b : S4 => lexL a.1.1 b.1.1) l).map (·.2.1), ?_, ?_⟩
              · rw [← m2]
                exact vals_map _ _ _ fun x hx => (e3 x (mem x hx)).2.1
              · have : srtD ps ds = (isort (fun a b : S4 => lexL a.1.1 b.1.1) l).map (·.1.2) := by
                  unfold srtD
                  rw [← m1, List.map_map]
                  rfl
                rw [this]
                exact rpl_map _ _ _ fun x hx => (e3 x (mem x hx)).1
            · have hl1 : its.length ≤ 1 := by omega
              have hdl : ds.length = its.length := by rw [hr.len, ← rv.length]
              have hpl : ps.length = its.length := Paired.length rds
              have ho : out.Perm its := h2.perm
              match its, ds, ps, ws, rv, hr, hl1, hdl, hpl, ho with
              | [], [], [], _, rv, hr, _, _, _, ho => rw [ho.eq_nil]; cases hr; exact ⟨[], .nil, .nil⟩
              | [u], [d], [p], _, rv, hr, _, _, _, ho =>
                rw [List.perm_singleton.mp ho]
                exact ⟨_, rv, hr⟩
              | [], _ :: _, _, _, _, _, _, e, _, _ => exact absurd e (by simp)
              | [], [], _ :: _, _, _, _, _, _, e, _ => exact absurd e (by simp)
              | [_], [], _, _, _, _, _, e, _, _ => exact absurd e (by simp)
              | [_], _ :: _ :: _, _, _, _, _, _, e, _, _ => exact absurd e (by simp)
              | [_], [_], [], _, _, _, _, _, e, _ => exact absurd e (by simp)
              | [_], [_], _ :: _ :: _, _, _, _, _, _, e, _ => exact absurd e (by simp)
              | _ :: _ :: _, _, _, _, _, _, h, _, _, _ => exact absurd h (by simp)
          obtain ⟨ys, f1, f2⟩ := fin
          obtain ⟨ep, he'⟩ := PyProof.Rows.sortedAll_at s.heap its out.toArray
          have hlen : ys.length ≤ sizeLine := by
            rw [f1.length, h2.perm.length_eq, ← rv.length]
            exact hz
          exact ⟨.ref _, upd H (s.heap.objs.size + 1) (.lst ys), I.laid (t' := s.toks) (fun _ _ => PyProof.Rows.sortedAll_old) (Nat.le_succ _) ⟨hlen, out, ep, f1, he'⟩, rfl, new_lst rg f2 q _ (I.hok.fresh (Nat.le_succ _))⟩
        · exact absurd q id
      · exact absurd q id
    · exact absurd q id
end PD
set_option Elab.async false
set_option linter.all false
set_option maxRecDepth 100000
set_option maxHeartbeats 4000000
/-! PD4: built-ins, methods. -/
namespace PD
open PySem PySem.Spec PyProof.Rows L2
variable [Tb]
/-- the items of a list -/
def lstD (x : D) (g : G) : Option (List D) := match x with
  | .ro ds => some ds
  | .ref n => (match g[n]? with
    | some (.lst ds) => some ds
    | _ => none)
  | _ => none
def seqD (x : D) (g : G) : Option (List D) := match x with
  | .tup ds => some ds
  | _ => lstD x g
theorem lstD_ok {K : PySem.W.Frag} {A : List Addr} {H : Hp} {g : G} (r : Rel K A g H) {x : D} {v : V} {ds : List D} (hx : Rp K A H x v) (e : lstD x g = some ds) : ∃ a vs, v = .ref a ∧ SqL K H a vs ∧ RpL K A H ds vs := by
  cases hx with
  | @ro a vs ds' hq hr => cases e; exact ⟨a, vs, rfl, hq.sq, hr⟩
  | @ref n a ha =>
    have e' : (match g[n]? with
      | some (.lst ds) => some ds
      | _ => none) = some ds := e
    split at e'
    · rename_i ds' en
      cases e'
      obtain ⟨vs, hv, hr⟩ := r.obj n _ a en ha
      exact ⟨a, vs, rfl, .of hv, hr⟩
    · cases e'
  | _ => cases e
theorem seqD_ok {K : PySem.W.Frag} {A : List Addr} {H : Hp} {g : G} (r : Rel K A g H) {x : D} {v : V} {ds : List D} (hx : Rp K A H x v) (e : seqD x g = some ds) : ∃ a vs, v = .ref a ∧ (SqL K H a vs ∨ SqT K H a vs) ∧ RpL K A H ds vs := by
  cases hx with
  | @tup a vs ds' hq hr => cases e; exact ⟨a, vs, rfl, .inr hq.sq, hr⟩
  | ro hq hr =>
    obtain ⟨a, vs, h1, h2, h3⟩ := lstD_ok r (.ro hq hr) (show lstD (.ro _) g = some ds from e)
    exact ⟨a, vs, h1, .inl h2, h3⟩
  | ref ha =>
    obtain ⟨a, vs, h1, h2, h3⟩ := lstD_ok r (.ref ha) (show lstD (.ref _) g = some ds from e)
    exact ⟨a, vs, h1, .inl h2, h3⟩
  | _ => cases e
def boolsD : List D → Option (List Bool)
  | [] => some []
  | .bl b :: r => (boolsD r).map (b :: ·)
  | _ :: _ => none
def intsD : List D → Option (List Int)
  | [] => some []
  | .int i :: r => (intsD r).map (i :: ·)
  | _ :: _ => none
theorem boolsD_ok {K : PySem.W.Frag} {A : List Addr} {H : Hp} : ∀ {ds : List D} {vs : List V} {bs : List Bool}, RpL K A H ds vs → boolsD ds = some bs → vs = bs.map V.bl
  | _, _, _, .nil, e => by cases e; rfl
  | d :: ds, _, bs, .cons h t, e => by
    cases h with
    | bl b =>
      have e' : (boolsD ds).map (b :: ·) = some bs := e
      cases q : boolsD ds with
      | none => rw [q] at e'; cases e'
      | some cs =>
        rw [q] at e'
        have e2 := Option.some.inj e'
        subst e2
        rw [List.map_cons, ← boolsD_ok t q]
    | _ => cases e
theorem intsD_ok {K : PySem.W.Frag} {A : List Addr} {H : Hp} : ∀ {ds : List D} {vs : List V} {bs : List Int}, RpL K A H ds vs → intsD ds = some bs → vs = bs.map V.int
  | _, _, _, .nil, e => by cases e; rfl
  | d :: ds, _, bs, .cons h t, e => by
    cases h with
    | int b =>
      have e' : (intsD ds).map (b :: ·) = some bs := e
      cases q : intsD ds with
      | none => rw [q] at e'; cases e'
      | some cs =>
        rw [q] at e'
        have e2 := Option.some.inj e'
        subst e2
        rw [List.map_cons, ← intsD_ok t q]
    | _ => cases e
/-- the type's name -/
def tyN (x : D) (g : G) : Option String := match x with
  | .non => some "NoneType"
  | .bl _ => some "bool"
  | .int _ => some "int"
  | .str _ => some "str"
  | .tup _ => some "tuple"
  | .ro _ => some "list"
  | .ref n => (match g[n]? with
    | some (.lst _) => some "list"
    | some (.dic _) => some "dict"
    | some (.fdic _) => some "dict"
    | none => none)
  | .ty _ => none
theorem tyN_ok {K : PySem.W.Frag} {A : List Addr} {H : Hp} {g : G} (r : Rel K A g H) {x : D} {v : V} {t : String} (hx : Rp K A H x v) (e : tyN x g = some t) : TyX K H v (.type t) := by
  cases hx with
  | non => cases e; exact .base .non
  | bl b => cases e; exact .base (.bl b)
  | int i => cases e; exact .base (.int i)
  | str s => cases e; exact .base (.str s)
  | ty n => cases e
  | @tup a vs ds hq hr =>
    cases e
    rcases hq with h | ⟨o, its, n, h1, h2, _⟩
    · exact .base (.tup h)
    · exact .kTuple h1 h2
  | @ro a vs ds hq hr =>
    cases e
    rcases hq with ⟨o, h⟩ | ⟨o, its, n, h1, h2, _⟩
    · exact .base (.frz h)
    · exact .kList h1 h2
  | @ref n a ha =>
    have e' : (match g[n]? with
      | some (.lst _) => some "list"
      | some (.dic _) => some "dict"
      | some (.fdic _) => some "dict"
      | none => none) = some t := e
    split at e'
    · rename_i ds en
      cases e'
      obtain ⟨vs, hv, _⟩ := r.obj n _ a en ha
      exact .base (.lst hv)
    · rename_i kvs en
      cases e'
      obtain ⟨ws, hv, _⟩ := r.obj n _ a en ha
      exact .base (.dK hv)
    · rename_i kvs en
      cases e'
      obtain ⟨o, ws, hv, _⟩ := r.obj n _ a en ha
      exact .fDict hv
    · cases e'
def isAny (t : String) : List D → Option Bool
  | [] => some false
  | .ty c :: r => (match kitB t c, isAny t r with
    | some a, some b => some (a || b)
    | _, _ => none)
  | _ :: _ => none
theorem isAny_ok {K : PySem.W.Frag} {A : List Addr} {H : Hp} {t : String} : ∀ {ds : List D} {vs : List V} {b : Bool}, RpL K A H ds vs → isAny t ds = some b → ∃ us, Paired ClsV vs us ∧ PySem.W.kitAny K (.type t) us = some b
  | _, _, _, .nil, e => by cases e; exact ⟨[], .nil, rfl⟩
  | d :: ds, _, b, .cons h tl, e => by
    cases h with
    | ty c =>
      have e' : (match kitB t c, isAny t ds with
        | some a, some b => some (a || b)
        | _, _ => none) = some b := e
      split at e'
      · rename_i a b' ek er
        cases e'
        obtain ⟨us, h1, h2⟩ := isAny_ok tl er
        refine ⟨.type c :: us, .cons (.ty c) h1, ?_⟩
        show (match PySem.W.kitOne K (.type t) (.type c) with
          | some true => some true
          | some false => PySem.W.kitAny K (.type t) us
          | none => none) = some (a || b')
        rw [kit_ty ek]
        cases a with
        | true => rfl
        | false => exact h2
      · cases e'
    | _ => cases e
def dIsi (x c : D) (g : G) : Option Bool := match tyN x g with
  | some t => (match c with
    | .ty n => kitB t n
    | .tup cs => isAny t cs
    | _ => none)
  | none => none
def putD (kvs : List (Key × D)) (k : Key) (v : D) : List (Key × D) :=
  if (kvs.any fun kv => decide (kv.1 = k)) = true then kvs.map (fun kv => if kv.1 = k then (kv.1, v) else kv) else kvs ++ [(k, v)]
def pairsD : List D → Option (List (Key × D))
  | [] => some []
  | .tup [x, y] :: r => (match keyD x, pairsD r with
    | some k, some ps => some ((k, y) :: ps)
    | _, _ => none)
  | _ :: _ => none
def mergeD (ps : List (Key × D)) : List (Key × D) := ps.foldl (fun acc p => putD acc p.1 p.2) []
/-- the built-ins -/
inductive B where
  | len | abs | any | all | isinstance | int | tuple | list | dict | sum | str | repr | max | min | sorted | bool
def B.nm : B → Str
  | .len => "len" | .abs => "abs" | .any => "any" | .all => "all" | .isinstance => "isinstance" | .int => "int" | .tuple => "tuple" | .list => "list" | .dict => "dict" | .sum => "sum" | .str => "str" | .repr => "repr" | .max => "max" | .min => "min" | .sorted => "sorted" | .bool => "bool"
def B.id : B → String
  | .len => "len" | .abs => "abs" | .any => "any" | .all => "all" | .isinstance => "isinstance" | .int => "int" | .tuple => "tuple" | .list => "list" | .dict => "dict" | .sum => "sum" | .str => "str" | .repr => "repr" | .max => "max" | .min => "min" | .sorted => "sorted" | .bool => "bool"
def B.isTy : B → Bool
  | .int | .tuple | .list | .dict | .str | .bool => true
  | _ => false
def B.val (b : B) : Value := if b.isTy then .type b.id else .builtin b.id
def strOfInt (i : Int) (g : G) : R D := if i.natAbs.log2 < 1920 then .ok (.str (toString i)) g else .bad
def maxOf : List Int → Option Int
  | [] => none
  | [x] => some x
  | x :: r => (maxOf r).map fun m => if m ≤ x then x else m
def minOf : List Int → Option Int
  | [] => none
  | [x] => some x
  | x :: r => (minOf r).map fun m => if x ≤ m then x else m
def lenD (x : D) (g : G) : Option Nat := match x with
  | .str y => if y.length ≤ sizeLine then some y.length else none
  | .ref n => (match g[n]? with
    | some (.lst ds) => some ds.length
    | _ => none)
  | .tup ds => some ds.length
  | .ro ds => some ds.length
  | _ => none
def dicD (x : D) (g : G) : Option (List (Key × D)) := match x with
  | .ref n => (match g[n]? with
    | some (.dic kvs) => some kvs
    | _ => none)
  | _ => none
def keyV : Key → D
  | .inl i => .int i
  | .inr x => .str x
def ofI (g : G) : Option Int → R D
  | some i => .ok (.int i) g
  | none => .bad
def newL (ds : List D) (g : G) : R D := .ok (.ref g.length) (g ++ [.lst ds])
def newD (ds : List (Key × D)) (g : G) : R D := .ok (.ref g.length) (g ++ [.dic ds])
/-- a dict, frozen or not -/
def dicF (x : D) (g : G) : Option (List (Key × D)) := match x with
  | .ref n => (match g[n]? with
    | some (.dic kvs) => some kvs
    | some (.fdic kvs) => some kvs
    | _ => none)
  | _ => none
def lenR (x : D) (g : G) : R D := match lenD x g with
  | some n => .ok (.int n) g
  | none => (match dicF x g with
    | some kvs => .ok (.int kvs.length) g
    | none => .bad)
def bltD (b : B) (xs : List D) (g : G) : R D := match b, xs with
  | .len, [x] => lenR x g
  | .abs, [.int i] => .ok (.int (if i < 0 then -i else i)) g
  | .any, [x] => ofB (((lstD x g).bind boolsD).map fun bs => bs.any id) g
  | .all, [x] => ofB (((lstD x g).bind boolsD).map fun bs => bs.all id) g
  | .isinstance, [x, c] => ofB (dIsi x c g) g
  | .int, [.int i] => .ok (.int i) g
  | .int, [.bl k] => .ok (.int (if k then 1 else 0)) g
  | .tuple, [x] => (match seqD x g with
    | some ds => .ok (.tup ds) g
    | none => .bad)
  | .list, [x] => (match seqD x g with
    | some ds => newL ds g
    | none => (match dicD x g with
      | some kvs => newL (kvs.map fun p => keyV p.1) g
      | none => .bad))
  | .dict, [x] => (match (lstD x g).bind pairsD with
    | some ps => newD (mergeD ps) g
    | none => (match dicD x g with
      | some kvs => newD kvs g
      | none => .bad))
  | .sum, [x] => ofI g (((lstD x g).bind intsD).map List.sum)
  | .str, [.int i] => strOfInt i g
  | .str, [.str a] => .ok (.str a) g
  | .repr, [.int i] => strOfInt i g
  | .max, [.int i, .int j] => .ok (.int (if j > i then j else i)) g
  | .min, [.int i, .int j] => .ok (.int (if j < i then j else i)) g
  | .max, [x] => ofI g (((lstD x g).bind intsD).bind maxOf)
  | .min, [x] => ofI g (((lstD x g).bind intsD).bind minOf)
  | .sorted, [x] => dSort x g
  | _, _ => .bad
section
variable {X : Cx}
theorem ofI_sat {K : PySem.W.Frag} {A : List Addr} {H : Hp} {g : G} {Q : VK} {o : Option Int} (h : (ofI g o).sat (GoD K A H Q) NoE) (r : Rel K A g H) : ∃ i, o = some i ∧ Q (.int i) H := by
  cases o with
  | none => exact absurd h id
  | some i => exact ⟨i, rfl, h A H (.int i) (Nx.refl _ _) r (.int i)⟩
theorem rpl1 {K : PySem.W.Frag} {A : List Addr} {H : Hp} {x : D} {vs : List V} (h : RpL K A H [x] vs) : ∃ v, vs = [v] ∧ Rp K A H x v := by
  cases h with
  | cons h t => cases t; exact ⟨_, rfl, h⟩
theorem rpl2 {K : PySem.W.Frag} {A : List Addr} {H : Hp} {x y : D} {vs : List V} (h : RpL K A H [x, y] vs) : ∃ v u, vs = [v, u] ∧ Rp K A H x v ∧ Rp K A H y u := by
  cases h with
  | cons h t =>
    cases t with
    | cons h' t => cases t; exact ⟨_, _, rfl, h, h'⟩
theorem len_ok {K : PySem.W.Frag} {A : List Addr} {H : Hp} {g : G} (r : Rel K A g H) {x : D} {v : V} {n : Nat} (hx : Rp K A H x v) (e : lenD x g = some n) : LenV K v H n := by
  cases hx with
  | str y =>
    have e' : (if y.length ≤ sizeLine then some y.length else none) = some n := e
    split at e'
    · rename_i hl; cases e'; exact ⟨hl, rfl⟩
    · cases e'
  | @tup a vs ds hq hr => cases e; exact .inr ⟨vs, hq.sq, hr.len⟩
  | @ro a vs ds hq hr => cases e; exact .inl ⟨vs, hq.sq, hr.len⟩
  | @ref m a ha =>
    have e' : (match g[m]? with
      | some (.lst ds) => some ds.length
      | _ => none) = some n := e
    split at e'
    · rename_i ds en
      cases e'
      obtain ⟨vs, hv, hr⟩ := r.obj m _ a en ha
      exact .inl ⟨vs, .of hv, hr.len⟩
    · cases e'
  | _ => cases e
theorem dicD_ok {K : PySem.W.Frag} {A : List Addr} {H : Hp} {g : G} (r : Rel K A g H) {x : D} {v : V} {kvs : List (Key × D)} (hx : Rp K A H x v) (e : dicD x g = some kvs) : ∃ a ws, v = .ref a ∧ H a = some (.dK ws) ∧ RpF K A H kvs ws := by
  cases hx with
  | @ref m a ha =>
    have e' : (match g[m]? with
      | some (.dic kvs) => some kvs
      | _ => none) = some kvs := e
    split at e'
    · rename_i kvs' en
      cases e'
      obtain ⟨ws, hv, hr⟩ := r.obj m _ a en ha
      exact ⟨a, ws, rfl, hv, hr⟩
    · cases e'
  | _ => cases e
theorem dicF_ok {K : PySem.W.Frag} {A : List Addr} {H : Hp} {g : G} (r : Rel K A g H) {x : D} {v : V} {kvs : List (Key × D)} (hx : Rp K A H x v) (e : dicF x g = some kvs) : ∃ a ws, v = .ref a ∧ Rd H a (.dK ws) ∧ RpF K A H kvs ws := by
  unfold dicF at e
  split at e
  · rename_i n
    cases hx with
    | ref ha =>
      split at e
      · rename_i en
        cases e
        obtain ⟨ws, h1, h2⟩ := r.obj _ _ _ en ha
        exact ⟨_, ws, rfl, .inl h1, h2⟩
      · rename_i en
        cases e
        obtain ⟨o, ws, h1, h2⟩ := r.obj _ _ _ en ha
        exact ⟨_, ws, rfl, .inr ⟨o, h1⟩, h2⟩
      · cases e
  · cases e
theorem call_lenF : CallR X (.builtin "len") (fun xs H Q => ∃ a kvs, xs = [V.ref a] ∧ Rd H a (.dK kvs) ∧ Q (.int kvs.length) H) := by
  intro pins s σ H xs us Q I r ⟨a, kvs, ex, ha, q⟩
  subst ex
  obtain ⟨u, rfl, ru⟩ := vals1 r
  cases ru
  exact d_len I ha fun t s' I' => ⟨.int kvs.length, H, I', ⟨t, rfl⟩, q⟩
theorem isi_ok : CallR X (.builtin "isinstance") (fun vs H Q => ∃ A g x c b, Rel X.K A g H ∧ RpL X.K A H [x, c] vs ∧ dIsi x c g = some b ∧ Q (.bl b) H) := by
  intro pins s σ H vs us Q I rv ⟨A, g, x, c, b, r, hr, e, q⟩
  obtain ⟨v, u, rfl, hx, hc⟩ := rpl2 hr
  unfold dIsi at e
  split at e
  · rename_i t et
    have ty := tyN_ok r hx et
    cases hc with
    | ty n => exact call_isi pins s σ H _ us Q I rv ⟨v, .ty n, _, _, b, rfl, .ty n, ty, kit_ty e, q⟩
    | @tup a vs ds hq hr' =>
      obtain ⟨ws, h1, h2⟩ := isAny_ok hr' e
      rcases hq with h | ⟨o, its, n, hk, h3, h4, h5, h6⟩
      · exact call_isiT pins s σ H _ us Q I rv ⟨v, a, vs, _, ws, b, rfl, h, h1, ty, h2, q⟩
      · have e3 := ClsV.all h1 h6
        obtain ⟨oc, od, dt, osl⟩ := o
        simp only at h3 h4
        subst h3 h4
        refine call_isiK pins s σ H _ us Q I rv ⟨v, a, od, ws, n, osl, _, b, rfl, ?_, ty, h2, q⟩
        rw [hk, ← e3]
    | _ => cases e
  · cases e
theorem any_rp {K : PySem.W.Frag} {A : List Addr} {H : Hp} (k : Key) : ∀ {kvs : List (Key × D)} {ws : List (Key × V)}, RpF K A H kvs ws → (kvs.any fun kv => decide (kv.1 = k)) = ws.any fun kv => decide (kv.1 = k)
  | _, _, .nil => rfl
  | _, _, .cons h t => by rw [List.any_cons, List.any_cons, any_rp k t, h.1]
theorem mapput_rp {K : PySem.W.Frag} {A : List Addr} {H : Hp} {k : Key} {d : D} {v : V} (hv : Rp K A H d v) : ∀ {kvs : List (Key × D)} {ws : List (Key × V)}, RpF K A H kvs ws → RpF K A H (kvs.map fun kv => if kv.1 = k then (kv.1, d) else kv) (ws.map fun kv => if kv.1 = k then (kv.1, v) else kv)
  | _, _, .nil => .nil
  | _, _, .cons (a := p) (b := q) h t => by
    rw [List.map_cons, List.map_cons]
    refine .cons ?_ (mapput_rp hv t)
    show (if p.1 = k then (p.1, d) else p).1 = (if q.1 = k then (q.1, v) else q).1 ∧ Rp K A H (if p.1 = k then (p.1, d) else p).2 (if q.1 = k then (q.1, v) else q).2
    rw [h.1]
    split
    · exact ⟨rfl, hv⟩
    · exact ⟨h.1, h.2⟩
theorem RpF.app {K : PySem.W.Frag} {A : List Addr} {H : Hp} {κ : Type} : ∀ {kvs ks : List (κ × D)} {ws us : List (κ × V)}, RpF K A H kvs ws → RpF K A H ks us → RpF K A H (kvs ++ ks) (ws ++ us)
  | _, _, _, _, .nil, r => r
  | _, _, _, _, .cons h t, r => .cons h (RpF.app t r)
theorem put_rp {K : PySem.W.Frag} {A : List Addr} {H : Hp} {k : Key} {d : D} {v : V} (hv : Rp K A H d v) {kvs : List (Key × D)} {ws : List (Key × V)} (h : RpF K A H kvs ws) : RpF K A H (putD kvs k d) (putK ws k v) := by
  unfold putD putK
  rw [any_rp k h]
  split
  · exact mapput_rp hv h
  · exact RpF.app h (.cons ⟨rfl, hv⟩ .nil)
theorem merge_rp {K : PySem.W.Frag} {A : List Addr} {H : Hp} : ∀ {ps : List (Key × D)} {qs : List (Key × V)} {kvs : List (Key × D)} {ws : List (Key × V)}, RpF K A H ps qs → RpF K A H kvs ws → RpF K A H (ps.foldl (fun acc p => putD acc p.1 p.2) kvs) (mergeK ws qs)
  | _, _, _, _, .nil, h => h
  | _, _, _, _, .cons (a := p) (b := q) h t, h' => by
    have e := put_rp (k := p.1) h.2 h'
    have m := merge_rp t e
    rw [h.1] at m
    rw [h.1] at e
    show RpF K A H (List.foldl _ (putD _ p.1 p.2) _) (mergeK (putK _ q.1 q.2) _)
    rw [h.1]
    exact m
/-- a new dict -/
theorem new_dic {K : PySem.W.Frag} {A : List Addr} {H : Hp} {g : G} {Q : VK} {ds : List (Key × D)} {ws : List (Key × V)} (r : Rel K A g H) (h : RpF K A H ds ws) (q : GoD K A H Q (.ref g.length) (g ++ [.dic ds])) : ∀ p, H p = none → Q (.ref p) (upd H p (.dK ws)) := fun p hp => by
  obtain ⟨r1, x1, e1⟩ := r.alloc (o := .dic ds) (u := .dK ws) hp (fun A' H' x e => ⟨ws, e, RpF.nx x h⟩)
  exact q _ _ _ x1 r1 (.ref e1)
theorem pairs_ok {K : PySem.W.Frag} {A : List Addr} {H : Hp} : ∀ {ds : List D} {vs : List V} {ps : List (Key × D)}, RpL K A H ds vs → pairsD ds = some ps → ∃ (as : List Addr) (kvs : List (Key × V)), vs = as.map V.ref ∧ Paired (fun p kv => SqT K H p [kV kv.1, kv.2]) as kvs ∧ RpF K A H ps kvs
  | _, _, _, .nil, e => by cases e; exact ⟨[], [], rfl, .nil, .nil⟩
  | d :: ds, _, ps, .cons h t, e => by
    cases h with
    | @tup a vs es hq hr =>
      cases hr with
      | nil => cases e
      | cons hx r1 =>
        cases r1 with
        | nil => cases e
        | cons hy r2 =>
          cases r2 with
          | cons _ _ => cases e
          | nil =>
            rename_i x vx y vy
            have e' : (match keyD x, pairsD ds with
              | some k, some ps => some ((k, y) :: ps)
              | _, _ => none) = some ps := e
            split at e'
            · rename_i k qs ek eq
              cases e'
              obtain ⟨as, kvs, h1, h2, h3⟩ := pairs_ok t eq
              have ev := keyD_ok hx ek
              refine ⟨a :: as, (k, vy) :: kvs, by rw [h1]; rfl, .cons ?_ h2, .cons ⟨rfl, hy⟩ h3⟩
              show SqT K H a [kV k, vy]
              rw [← ev]
              exact hq.sq
            · cases e'
    | _ => cases e
theorem keys_rp {K : PySem.W.Frag} {A : List Addr} {H : Hp} : ∀ {kvs : List (Key × D)} {ws : List (Key × V)}, RpF K A H kvs ws → RpL K A H (kvs.map fun p => keyV p.1) (ws.map fun p => kV p.1)
  | _, _, .nil => .nil
  | _, _, .cons (a := p) (b := q) h t => by
    refine .cons ?_ (keys_rp t)
    obtain ⟨k, d⟩ := p
    obtain ⟨k', v⟩ := q
    have e : k = k' := h.1
    subst e
    cases k with
    | inl i => exact .int i
    | inr x => exact .str x
theorem max_ok : ∀ {ns : List Int} {m : Int}, maxOf ns = some m → 0 < ns.length ∧ m ∈ ns ∧ ∀ y ∈ ns, y ≤ m
  | [], _, e => by cases e
  | [x], m, e => by cases e; exact ⟨by simp, by simp, fun y hy => by simp at hy; omega⟩
  | x :: y :: r, m, e => by
    have e' : (maxOf (y :: r)).map (fun m => if m ≤ x then x else m) = some m := e
    cases q : maxOf (y :: r) with
    | none => rw [q] at e'; cases e'
    | some c =>
      rw [q] at e'
      have e2 : (if c ≤ x then x else c) = m := Option.some.inj e'
      obtain ⟨_, h1, h2⟩ := max_ok q
      refine ⟨by simp, ?_, fun z hz => ?_⟩
      · split at e2
        · subst e2; exact List.mem_cons_self
        · subst e2; exact List.mem_cons_of_mem _ h1
      · rcases List.mem_cons.mp hz with rfl | hz
        · split at e2 <;> omega
        · have := h2 z hz
          split at e2 <;> omega
theorem min_ok : ∀ {ns : List Int} {m : Int}, minOf ns = some m → 0 < ns.length ∧ m ∈ ns ∧ ∀ y ∈ ns, m ≤ y
  | [], _, e => by cases e
  | [x], m, e => by cases e; exact ⟨by simp, by simp, fun y hy => by simp at hy; omega⟩
  | x :: y :: r, m, e => by
    have e' : (minOf (y :: r)).map (fun m => if x ≤ m then x else m) = some m := e
    cases q : minOf (y :: r) with
    | none => rw [q] at e'; cases e'
    | some c =>
      rw [q] at e'
      have e2 : (if x ≤ c then x else c) = m := Option.some.inj e'
      obtain ⟨_, h1, h2⟩ := min_ok q
      refine ⟨by simp, ?_, fun z hz => ?_⟩
      · split at e2
        · subst e2; exact List.mem_cons_self
        · subst e2; exact List.mem_cons_of_mem _ h1
      · rcases List.mem_cons.mp hz with rfl | hz
        · split at e2 <;> omega
        · have := h2 z hz
          split at e2 <;> omega
theorem bltD_ok (hc : X.calm = true) (hu : X.A.units + 100 < cLine) (b : B) : CallR X b.val (rC X.K (bltD b)) := by
  intro pins s σ H vs us Q I rv ⟨A, g, xs, r, hr, h⟩
  unfold bltD at h
  split at h
  · -- len
    rename_i x
    obtain ⟨v, rfl, hx⟩ := rpl1 hr
    unfold lenR at h
    split at h
    · rename_i n e
      exact call_len pins s σ H _ us Q I rv ⟨v, n, rfl, len_ok r hx e, h A H _ (Nx.refl _ _) r (.int _)⟩
    · split at h
      · rename_i kvs e
        obtain ⟨a, ws, rfl, h1, h2⟩ := dicF_ok r hx e
        exact call_lenF pins s σ H _ us Q I rv ⟨a, ws, rfl, h1, by rw [← Paired.length h2]; exact h A H _ (Nx.refl _ _) r (.int _)⟩
      · exact absurd h id
  · -- abs
    rename_i i
    obtain ⟨v, rfl, hx⟩ := rpl1 hr
    cases hx
    exact call_abs pins s σ H _ us Q I rv ⟨i, rfl, h A H _ (Nx.refl _ _) r (.int _)⟩
  · -- any
    rename_i x
    obtain ⟨v, rfl, hx⟩ := rpl1 hr
    obtain ⟨b, e, q⟩ := ofB_sat h r
    cases e1 : lstD x g with
    | none => rw [e1] at e; cases e
    | some ds =>
      rw [e1] at e
      cases e2 : boolsD ds with
      | none => rw [Option.bind_some, e2] at e; cases e
      | some bs =>
        rw [Option.bind_some, e2] at e
        have e3 : bs.any id = b := Option.some.inj e
        obtain ⟨a, ws, rfl, h1, h2⟩ := lstD_ok r hx e1
        have e4 := boolsD_ok h2 e2
        subst e4
        exact cr_any hc pins s σ H _ us Q I rv ⟨a, bs, rfl, h1, by rw [e3]; exact q⟩
  · -- all
    rename_i x
    obtain ⟨v, rfl, hx⟩ := rpl1 hr
    obtain ⟨b, e, q⟩ := ofB_sat h r
    cases e1 : lstD x g with
    | none => rw [e1] at e; cases e
    | some ds =>
      rw [e1] at e
      cases e2 : boolsD ds with
      | none => rw [Option.bind_some, e2] at e; cases e
      | some bs =>
        rw [Option.bind_some, e2] at e
        have e3 : bs.all id = b := Option.some.inj e
        obtain ⟨a, ws, rfl, h1, h2⟩ := lstD_ok r hx e1
        have e4 := boolsD_ok h2 e2
        subst e4
        exact cr_all hc pins s σ H _ us Q I rv ⟨a, bs, rfl, h1, by rw [e3]; exact q⟩
  · -- isinstance
    rename_i x c
    obtain ⟨b, e, q⟩ := ofB_sat h r
    exact isi_ok pins s σ H _ us Q I rv ⟨A, g, x, c, b, r, hr, e, q⟩
  · -- int
    rename_i i
    obtain ⟨v, rfl, hx⟩ := rpl1 hr
    cases hx
    exact call_int1 pins s σ H _ us Q I rv (.inl ⟨i, rfl, h A H _ (Nx.refl _ _) r (.int _)⟩)
  · rename_i k
    obtain ⟨v, rfl, hx⟩ := rpl1 hr
    cases hx
    exact call_int1 pins s σ H _ us Q I rv (.inr ⟨k, rfl, h A H _ (Nx.refl _ _) r (.int _)⟩)
  · -- tuple
    rename_i x
    obtain ⟨v, rfl, hx⟩ := rpl1 hr
    split at h
    · rename_i ds e
      cases hx with
      | @tup a' vs' ds' hq' hr' =>
        cases e
        exact call_tuple_of pins s σ H _ us Q I rv ⟨a', vs', rfl, .inr ⟨hq'.sq, h A H _ (Nx.refl _ _) r (.tup hq' hr')⟩⟩
      | ro hq' hr' =>
        obtain ⟨a2, ws2, z, z1, z2⟩ := lstD_ok r (.ro hq' hr') (show lstD (.ro _) g = some ds from e)
        exact call_tuple_of pins s σ H _ us Q I rv ⟨a2, ws2, by rw [z], .inl ⟨z1, new_tup r z2 h⟩⟩
      | ref ha' =>
        obtain ⟨a2, ws2, z, z1, z2⟩ := lstD_ok r (.ref ha') (show lstD (.ref _) g = some ds from e)
        exact call_tuple_of pins s σ H _ us Q I rv ⟨a2, ws2, by rw [z], .inl ⟨z1, new_tup r z2 h⟩⟩
      | _ => cases e
    · exact absurd h id
  · -- list
    rename_i x
    obtain ⟨v, rfl, hx⟩ := rpl1 hr
    split at h
    · rename_i ds e
      obtain ⟨a, ws, rfl, h1, h2⟩ := seqD_ok r hx e
      exact call_list_of pins s σ H _ us Q I rv ⟨a, ws, rfl, h1, new_lst r h2 h⟩
    · split at h
      · rename_i kvs e
        obtain ⟨a, ws, rfl, h1, h2⟩ := dicD_ok r hx e
        exact call_listD hc pins s σ H _ us Q I rv ⟨a, ws, rfl, .of h1, new_lst r (keys_rp h2) h⟩
      · exact absurd h id
  · -- dict
    rename_i x
    obtain ⟨v, rfl, hx⟩ := rpl1 hr
    split at h
    · rename_i ps e
      cases e1 : lstD x g with
      | none => rw [e1] at e; cases e
      | some ds =>
        rw [e1, Option.bind_some] at e
        obtain ⟨a, ws, rfl, h1, h2⟩ := lstD_ok r hx e1
        obtain ⟨as, kvs, h3, h4, h5⟩ := pairs_ok h2 e
        subst h3
        exact call_dictP hc pins s σ H _ us Q I rv ⟨a, as, kvs, rfl, h1, h4, new_dic r (merge_rp h5 .nil) h⟩
    · split at h
      · rename_i kvs e
        obtain ⟨a, ws, rfl, h1, h2⟩ := dicD_ok r hx e
        exact call_dictD pins s σ H _ us Q I rv ⟨a, ws, rfl, .of h1, new_dic r h2 h⟩
      · exact absurd h id
  · -- sum
    rename_i x
    obtain ⟨v, rfl, hx⟩ := rpl1 hr
    obtain ⟨i, e, q⟩ := ofI_sat h r
    cases e1 : lstD x g with
    | none => rw [e1] at e; cases e
    | some ds =>
      rw [e1, Option.bind_some] at e
      cases e2 : intsD ds with
      | none => rw [e2] at e; cases e
      | some ns =>
        rw [e2] at e
        have e3 : ns.sum = i := Option.some.inj e
        obtain ⟨a, ws, rfl, h1, h2⟩ := lstD_ok r hx e1
        have e4 := intsD_ok h2 e2
        subst e4
        exact cr_sum hc pins s σ H _ us Q I rv ⟨a, ns, rfl, h1, by rw [e3]; exact q⟩
  · -- str
    rename_i i
    obtain ⟨v, rfl, hx⟩ := rpl1 hr
    cases hx
    unfold strOfInt at h
    split at h
    · rename_i hl
      exact call_str_int pins s σ H _ us Q I rv ⟨i, rfl, hl, h A H _ (Nx.refl _ _) r (.str _)⟩
    · exact absurd h id
  · rename_i a
    obtain ⟨v, rfl, hx⟩ := rpl1 hr
    cases hx
    exact SkE.call_str_str pins s σ H _ us Q I rv ⟨a, rfl, h A H _ (Nx.refl _ _) r (.str _)⟩
  · -- repr
    rename_i i
    obtain ⟨v, rfl, hx⟩ := rpl1 hr
    cases hx
    unfold strOfInt at h
    split at h
    · rename_i hl
      exact SkE.call_repr_int pins s σ H _ us Q I rv ⟨i, rfl, hl, h A H _ (Nx.refl _ _) r (.str _)⟩
    · exact absurd h id
  · rename_i i j
    obtain ⟨v, u, rfl, hx, hy⟩ := rpl2 hr
    cases hx
    cases hy
    exact call_max2 hc pins s σ H _ us Q I rv ⟨i, j, rfl, h A H _ (Nx.refl _ _) r (.int _)⟩
  · rename_i i j
    obtain ⟨v, u, rfl, hx, hy⟩ := rpl2 hr
    cases hx
    cases hy
    exact call_min2 hc pins s σ H _ us Q I rv ⟨i, j, rfl, h A H _ (Nx.refl _ _) r (.int _)⟩
  · rename_i x
    obtain ⟨v, rfl, hx⟩ := rpl1 hr
    obtain ⟨i, e, q⟩ := ofI_sat h r
    cases e1 : lstD x g with
    | none => rw [e1] at e; cases e
    | some ds =>
      rw [e1, Option.bind_some] at e
      cases e2 : intsD ds with
      | none => rw [e2] at e; cases e
      | some ns =>
        rw [e2, Option.bind_some] at e
        obtain ⟨a, ws, rfl, h1, h2⟩ := lstD_ok r hx e1
        have e4 := intsD_ok h2 e2
        subst e4
        obtain ⟨m1, m2, m3⟩ := max_ok e
        refine cr_max hc pins s σ H _ us Q I rv ⟨a, ns, rfl, h1, m1, fun m hm hy => ?_⟩
        have e5 : m = i := by have := hy i m2; have := m3 m hm; omega
        rw [e5]; exact q
  · rename_i x
    obtain ⟨v, rfl, hx⟩ := rpl1 hr
    obtain ⟨i, e, q⟩ := ofI_sat h r
    cases e1 : lstD x g with
    | none => rw [e1] at e; cases e
    | some ds =>
      rw [e1, Option.bind_some] at e
      cases e2 : intsD ds with
      | none => rw [e2] at e; cases e
      | some ns =>
        rw [e2, Option.bind_some] at e
        obtain ⟨a, ws, rfl, h1, h2⟩ := lstD_ok r hx e1
        have e4 := intsD_ok h2 e2
        subst e4
        obtain ⟨m1, m2, m3⟩ := min_ok e
        refine cr_min hc pins s σ H _ us Q I rv ⟨a, ns, rfl, h1, m1, fun m hm hy => ?_⟩
        have e5 : m = i := by have := hy i m2; have := m3 m hm; omega
        rw [e5]; exact q
  · rename_i x
    exact call_sort hu pins s σ H _ us Q I rv ⟨A, g, x, r, hr, h⟩
  · exact absurd h id
end
end PD
set_option Elab.async false
set_option linter.all false
set_option maxRecDepth 100000
set_option maxHeartbeats 4000000
/-! PD5: the small language, its meaning. -/
namespace PD
open PySem PySem.Spec PyProof.Rows L2

/-- the methods of lists -/
inductive M where
  | append | extend | pop | index
def M.nm : M → Str
  | .append => "append" | .extend => "extend" | .pop => "pop" | .index => "index"
inductive Tg where
  | name (i : Nat) (x : Str) (p : Pos)
  | tup (ts : List Tg) (k : Nat) (p : Pos)
mutual
inductive E where
  | var (i : Nat) (x : Str) (p : Pos)
  | typ (b : B) (p : Pos)
  | num (i : Int) (j : Nat) (p : Pos)
  | txt (x : Str) (j : Nat) (p : Pos)
  | boo (b : Bool) (j : Nat) (p : Pos)
  | non (j : Nat) (p : Pos)
  | bin (op : Operator) (a b : E) (p : Pos)
  | neg (a : E) (p : Pos)
  | nt (a : E) (p : Pos)
  | bop (isAnd : Bool) (es : Es) (p : Pos)
  | ife (c a b : E) (p : Pos)
  | cmp (op : CmpOp) (a b : E) (p : Pos)
  | idx (a i : E) (p : Pos)
  | slc (a : E) (lo hi : Oe) (p2 p : Pos)
  | tup (es : Es) (k : Nat) (p : Pos)
  | lst (es : Es) (p : Pos)
  | dct (kvs : Es) (p : Pos)
  | blt (b : B) (px : Pos) (es : Es) (p : Pos)
  | call (f : Nat) (x : Str) (px : Pos) (es : Es) (p : Pos)
  | callK (f : Nat) (x : Str) (px : Pos) (ks : List (Str × Pos)) (idx : List Nat) (vs : Es) (p : Pos)
  | mth (m : M) (o : E) (pa : Pos) (es : Es) (p : Pos)
  | get (o : E) (pa : Pos) (k d : E) (p : Pos)
  | lc (elt : E) (tg : Tg) (it : It) (ifs : Es) (scope : Scope) (own : List (Str × Nat)) (p : Pos)
  | lc2 (elt : E) (tg : Tg) (it : It) (ifs : Es) (tg1 : Tg) (it1 : It) (ifs1 : Es) (scope : Scope) (own : List (Str × Nat)) (vs1 : List Nat) (p : Pos)
  | met (hs : List (Str × Str × Str)) (x : Str) (px : Pos) (body : E) (scope : Scope) (lpos p : Pos)
inductive Es where
  | nil
  | cons (e : E) (r : Es)
inductive Oe where
  | none
  | some (e : E)
inductive It where
  | seq (e : E)
  | rng1 (px : Pos) (a : E) (p : Pos)
  | rng2 (px : Pos) (a b : E) (p : Pos)
  | zip (px : Pos) (a b : E) (p : Pos)
  | enm (px : Pos) (a : E) (p : Pos)
end
def Es.isNil : Es → Bool
  | .nil => true
  | .cons _ _ => false
def Es.len : Es → Nat
  | .nil => 0
  | .cons _ r => r.len + 1
/-! ### the text -/
mutual
def Tg.py : Tg → PySem.Expr
  | .name _ x p => .Name x p
  | .tup ts k p => .Tuple (Tg.pys ts) k p
def Tg.pys : List Tg → List PySem.Expr
  | [] => []
  | t :: ts => Tg.py t :: Tg.pys ts
end
def evens {β : Type} : List β → List β
  | [] => []
  | [_] => []
  | a :: _ :: r => a :: evens r
def odds {β : Type} : List β → List β
  | [] => []
  | [_] => []
  | _ :: b :: r => b :: odds r
def pyKw (kps : List (Str × Pos)) (es : List PySem.Expr) : List Keyword := (kps.zip es).map fun q => ⟨some q.1.1, q.2, q.1.2⟩
def noArgs : Arguments := { posonlyargs := [], args := [], vararg := none, kwonlyargs := [], kw_defaults := [], kwarg := none, defaults := [] }
mutual
def E.py : E → PySem.Expr
  | .var _ x p => .Name x p
  | .typ b p => .Name b.nm p
  | .num i j p => .Constant (.int i) j p
  | .txt x j p => .Constant (.str x) j p
  | .boo b j p => .Constant (.bool b) j p
  | .non j p => .Constant .none j p
  | .bin op a b p => .BinOp a.py op b.py p
  | .neg a p => .UnaryOp .USub a.py p
  | .nt a p => .UnaryOp .Not a.py p
  | .bop isAnd es p => .BoolOp (if isAnd then .And else .Or) es.pys p
  | .ife c a b p => .IfExp c.py a.py b.py p
  | .cmp op a b p => .Compare a.py [op] [b.py] p
  | .idx a i p => .Subscript a.py i.py p
  | .slc a lo hi p2 p => .Subscript a.py (.Slice lo.py hi.py none p2) p
  | .tup es k p => .Tuple es.pys k p
  | .lst es p => .List es.pys p
  | .dct kvs p => .Dict ((evens kvs.pys).map some) (odds kvs.pys) p
  | .blt b px es p => .Call (.Name b.nm px) es.pys [] p
  | .call _ x px es p => .Call (.Name x px) es.pys [] p
  | .callK _ x px ks _ vs p => .Call (.Name x px) [] (pyKw ks vs.pys) p
  | .mth m o pa es p => .Call (.Attribute o.py m.nm pa) es.pys [] p
  | .get o pa k d p => .Call (.Attribute o.py "get" pa) [k.py, d.py] [] p
  | .lc elt tg it ifs scope _ p => .ListComp elt.py [⟨tg.py, it.py, ifs.pys, 0⟩] scope p
  | .lc2 elt tg it ifs tg1 it1 ifs1 scope _ _ p => .ListComp elt.py [⟨tg.py, it.py, ifs.pys, 0⟩, ⟨tg1.py, it1.py, ifs1.pys, 0⟩] scope p
  | .met _ x px body scope lpos p => .Call (.Name x px) [.Lambda noArgs body.py scope lpos] [] p
def Es.pys : Es → List PySem.Expr
  | .nil => []
  | .cons e r => e.py :: r.pys
def Oe.py : Oe → Option PySem.Expr
  | .none => none
  | .some e => some e.py
def It.py : It → PySem.Expr
  | .seq e => e.py
  | .rng1 px a p => .Call (.Name "range" px) [a.py] [] p
  | .rng2 px a b p => .Call (.Name "range" px) [a.py, b.py] [] p
  | .zip px a b p => .Call (.Name "zip" px) [a.py, b.py] [] p
  | .enm px a p => .Call (.Name "enumerate" px) [a.py] [] p
end
/-! ### the meaning -/
/-- a value taken apart into slots -/
def wipeD (δ : Sl) : List Nat → Sl
  | [] => δ
  | v :: vs => (wipeD δ vs).set v none
mutual
def Tg.put : Tg → G → D → Sl → Option Sl
  | .name i _ _, _, d, δ => some (δ.set i (some d))
  | .tup ts _ _, g, d, δ => (match seqD d g with
    | some ds => Tg.puts ts g ds δ
    | none => none)
def Tg.puts : List Tg → G → List D → Sl → Option Sl
  | [], _, [], δ => some δ
  | t :: ts, g, d :: ds, δ => (match Tg.put t g d δ with
    | some δ' => Tg.puts ts g ds δ'
    | none => none)
  | _, _, _, _ => none
end
/-- what is walked: at a turn the item, or the end (none: no such walk) -/
abbrev Wk := Nat → G → Option (Option D)
def wkFix (ds : List D) : Wk := fun i _ => some ds[i]?
def wkSeq (x : D) : Wk := fun i g => (seqD x g).map fun ds => ds[i]?
/-- a dict's keys, the dict frozen -/
def wkKey (n : Nat) : Wk := fun i g => match g[n]? with
  | some (.fdic kvs) => some (kvs[i]?.map fun p => keyV p.1)
  | _ => none
def keyW (x : D) (g : G) : R Wk := match x with
  | .ref n => (match g[n]? with
    | some (.dic kvs) => .ok (wkKey n) (g.set n (.fdic kvs))
    | some (.fdic _) => .ok (wkKey n) g
    | _ => .bad)
  | _ => .bad
def wkRng (lo : Int) (n : Nat) : Wk := fun i _ => some (if i < n then some (.int (lo + i)) else none)
/-- two lists, or two tuples -/
def zipD (x y : D) (g : G) : Option (List D × List D) := match x, y with
  | .tup xs, .tup ys => some (xs, ys)
  | _, _ => (match lstD x g, lstD y g with
    | some xs, some ys => some (xs, ys)
    | _, _ => none)
def zipAt (i : Nat) (q : List D × List D) : Option D := match q.1[i]?, q.2[i]? with
  | some a, some b => some (.tup [a, b])
  | _, _ => none
def wkZip (x y : D) : Wk := fun i g => (zipD x y g).map (zipAt i)
def wkEnm (x : D) : Wk := fun i g => (lstD x g).map fun ds => ds[i]?.map fun d => .tup [.int i, d]
def FUEL : Nat := 1000000000
def walk (w : Wk) (step : D → G → R Unit) : Nat → Nat → G → R Unit
  | 0, _, _ => .bad
  | k + 1, i, g => match w i g with
    | none => .bad
    | some none => .ok () g
    | some (some d) => (step d g).bind fun _ g' => walk w step k (i + 1) g'
/-- no exception comes out -/
def noEx {β : Type} : R β → R β
  | .ex _ _ _ => .bad
  | r => r
/-- an item behind the list at n -/
def pushD (n : Nat) (y : D) (g : G) : R Unit := match g[n]? with
  | some (.lst ds) => if ds.length < sizeLine then .ok () (g.set n (.lst (ds ++ [y]))) else .bad
  | _ => .bad
def idxP (ys : List PyData) (x : PyData) : Option Nat := match ys with
  | [] => none
  | y :: r => if PyData.eqv y x then some 0 else (idxP r x).map (· + 1)
def isLst (x : D) (g : G) : Bool := match x with
  | .ref n => (match g[n]? with
    | some (.lst _) => true
    | _ => false)
  | _ => false
def lstAt (x : D) (g : G) : Option (Nat × List D) := match x with
  | .ref n => (match g[n]? with
    | some (.lst ds) => some (n, ds)
    | _ => none)
  | _ => none
def dApp (x y : D) (g : G) : R D := match lstAt x g with
  | some (n, ds) => if ds.length < sizeLine then .ok .non (g.set n (.lst (ds ++ [y]))) else .bad
  | none => .bad
def dExt (x y : D) (g : G) : R D := match lstAt x g, lstAt y g with
  | some (n, ds), some (_, es) => if ds.length + es.length ≤ sizeLine then .ok .non (g.set n (.lst (ds ++ es))) else .bad
  | _, _ => .bad
def dPop (x : D) (i : Int) (g : G) : R D := match lstAt x g with
  | some (n, ds) => if -(2 ^ 63) ≤ i ∧ i < 2 ^ 63 then (match seqIndex? i ds.length with
    | some k => (match ds[k]? with
      | some y => .ok y (g.set n (.lst (ds.eraseIdx k)))
      | none => .bad)
    | none => .bad) else .bad
  | none => .bad
def dInx (x y : D) (g : G) : R D := match lstAt x g, toP g 70 y with
  | some (_, ds), some d => (match allP (toP g 69) ds with
    | some es => if SeqAt.shaped d && SeqAt.shaped (.list es) then ofI g ((idxP es d).map fun k => (k : Int)) else .bad
    | none => .bad)
  | _, _ => .bad
def mth1 (m : M) (x y : D) (g : G) : R D := match m with
  | .append => dApp x y g
  | .extend => dExt x y g
  | .pop => (match y with
    | .int i => dPop x i g
    | _ => .bad)
  | .index => dInx x y g
def mthD (m : M) (x : D) (xs : List D) (g : G) : R D := match xs with
  | [y] => mth1 m x y g
  | _ => .bad
def kvsD : List D → Option (List (Key × D))
  | [] => some []
  | [_] => none
  | k :: v :: r => (match keyD k, kvsD r with
    | some k', some r => some ((k', v) :: r)
    | _, _ => none)
/-- the display's dict, laid at n, filled -/
def fillD (n : Nat) (xs : List D) (g : G) : R D := match g[n]?, kvsD xs with
  | some (.dic []), some kvs => if kvs.length ≤ 15 then .ok (.ref n) (g.set n (.dic (mergeD kvs))) else .bad
  | _, _ => .bad
def cmpD (op : CmpOp) (x y : D) (g : G) : R D := match op with
  | .Eq => ofB (dEq x y g) g
  | .NotEq => ofB ((dEq x y g).map (!·)) g
  | .Lt => dCmpI (fun i j => decide (i < j)) (fun a b => some (decide (a.cps.toList < b.cps.toList))) x y g
  | .LtE => dCmpI (fun i j => decide (i ≤ j)) (fun _ _ => none) x y g
  | .Gt => dCmpI (fun i j => decide (j < i)) (fun _ _ => none) x y g
  | .GtE => dCmpI (fun i j => decide (j ≤ i)) (fun _ _ => none) x y g
  | .Is => dIs false x y g
  | .IsNot => dIs true x y g
  | .In => ofB ((dInB x y g).map (nB false)) g
  | .NotIn => ofB ((dInB x y g).map (nB true)) g
def getR (x y z : D) (g : G) : R D := match dicD x g, keyD y with
  | some kvs, some k => .ok ((getK k kvs).getD z) g
  | _, _ => .bad
def truR (x : D) (g : G) : R Bool := match truD x g with
  | some b => .ok b g
  | none => .bad
def asB (x : D) (g : G) : R Bool := match x with
  | .bl b => .ok b g
  | _ => .bad
def asI (x : D) (g : G) : R Int := match x with
  | .int b => .ok b g
  | _ => .bad
def inR (i : Int) : Bool := decide (-(2 ^ 62) ≤ i) && decide (i < 2 ^ 62)
/-- told, or an exception that is caught -/
def metD (hs : List (Str × Str × Str)) : R D → R D
  | .ok d g => .ok (.tup [.str "told", d]) g
  | .ex c fs g => (match hs.lookup c with
    | some (tag, fld) => (match fs.lookup fld with
      | some d => .ok (.tup [.str tag, d]) g
      | none => .bad)
    | none => .bad)
  | .bad => .bad
section
variable (cl : Nat → List D → G → R D)
mutual
def ev : E → Sl → G → R D
  | .var i _ _, δ, g => ofO (δ[i]?).join g
  | .typ b _, _, g => .ok (.ty b.id) g
  | .num i _ _, _, g => .ok (.int i) g
  | .txt x _ _, _, g => .ok (.str x) g
  | .boo b _ _, _, g => .ok (.bl b) g
  | .non _ _, _, g => .ok .non g
  | .bin op a b _, δ, g => (ev a δ g).bind fun x g1 => (ev b δ g1).bind fun y g2 => binD op x y g2
  | .neg a _, δ, g => (ev a δ g).bind fun x g1 => (asI x g1).bind fun i g2 => .ok (.int (-i)) g2
  | .nt a _, δ, g => (ev a δ g).bind fun x g1 => (truR x g1).bind fun b g2 => .ok (.bl (!b)) g2
  | .bop isAnd es _, δ, g => evB isAnd es δ g
  | .ife c a b _, δ, g => (evT c δ g).bind fun k g1 => if k then ev a δ g1 else ev b δ g1
  | .cmp op a b _, δ, g => (ev a δ g).bind fun x g1 => (ev b δ g1).bind fun y g2 => cmpD op x y g2
  | .idx a i _, δ, g => (ev a δ g).bind fun x g1 => (ev i δ g1).bind fun y g2 => dIdx x y g2
  | .slc a lo hi _ _, δ, g => (ev a δ g).bind fun x g1 => (evO lo δ g1).bind fun l g2 => (evO hi δ g2).bind fun h g3 => dSl x l h g3
  | .tup es _ _, δ, g => (evs es δ g).bind fun xs g1 => if xs.length ≤ sizeLine then .ok (.tup xs) g1 else .bad
  | .lst es _, δ, g => (evs es δ g).bind fun xs g1 => if xs.length ≤ sizeLine then newL xs g1 else .bad
  | .dct kvs _, δ, g => (evs kvs δ (g ++ [.dic []])).bind fun xs g1 => fillD g.length xs g1
  | .blt b _ es _, δ, g => (evs es δ g).bind fun xs g1 => bltD b xs g1
  | .call f _ _ es _, δ, g => (evs es δ g).bind fun xs g1 => cl f xs g1
  | .callK f _ _ _ idx vs _, δ, g => (evs vs δ g).bind fun ys g1 => cl f (idx.map fun j => ys.getD j .non) g1
  | .mth m o _ es _, δ, g => (ev o δ g).bind fun x g1 => if isLst x g1 then (evs es δ g1).bind fun xs g2 => mthD m x xs g2 else .bad
  | .get o _ k d _, δ, g => (ev o δ g).bind fun x g1 => if (dicD x g1).isSome then (ev k δ g1).bind fun y g2 => (ev d δ g2).bind fun z g3 => getR x y z g3 else .bad
  | .lc elt tg it ifs _ own _, δ, g => (evI it δ g).bind fun w g1 => (noEx (walk w (fun d g2 => (match tg.put g2 d (wipeD δ (own.map (·.2))) with
      | some δ2 => (evF ifs δ2 g2).bind fun b g3 => if b then (ev elt δ2 g3).bind fun y g4 => pushD g1.length y g4 else .ok () g3
      | none => .bad)) FUEL 0 (g1 ++ [.lst []]))).bind fun _ g5 => .ok (.ref g1.length) g5
  | .lc2 elt tg it ifs tg1 it1 ifs1 _ own vs1 _, δ, g => (evI it δ g).bind fun w g1 => (noEx (walk w (fun d g2 => (match tg.put g2 d (wipeD δ (own.map (·.2))) with
      | some δ2 => (evF ifs δ2 g2).bind fun b g3 => if b then (evI it1 δ2 g3).bind fun w1 g4 => walk w1 (fun d1 g5 => (match tg1.put g5 d1 (wipeD δ2 vs1) with
        | some δ3 => (evF ifs1 δ3 g5).bind fun b1 g6 => if b1 then (ev elt δ3 g6).bind fun y g7 => pushD g1.length y g7 else .ok () g6
        | none => .bad)) FUEL 0 g4 else .ok () g3
      | none => .bad)) FUEL 0 (g1 ++ [.lst []]))).bind fun _ g5 => .ok (.ref g1.length) g5
  | .met hs _ _ body _ _ _, δ, g => metD hs (ev body δ g)
def evT : E → Sl → G → R Bool
  | .nt a _, δ, g => (evT a δ g).bind fun b g1 => .ok (!b) g1
  | .bop isAnd es _, δ, g => evTB isAnd es δ g
  | .cmp op a b _, δ, g => (ev a δ g).bind fun x g1 => (ev b δ g1).bind fun y g2 => (cmpD op x y g2).bind fun z g3 => asB z g3
  | .ife _ _ _ _, _, _ => .bad
  | .var i _ _, δ, g => (ofO (δ[i]?).join g).bind fun x g1 => truR x g1
  | .idx a i _, δ, g => (ev a δ g).bind fun x g1 => (ev i δ g1).bind fun y g2 => (dIdx x y g2).bind fun z g3 => truR z g3
  | .blt b _ es _, δ, g => (evs es δ g).bind fun xs g1 => (bltD b xs g1).bind fun x g2 => truR x g2
  | .call f _ _ es _, δ, g => (evs es δ g).bind fun xs g1 => (cl f xs g1).bind fun x g2 => truR x g2
  | .boo b _ _, _, g => .ok b g
  | _, _, _ => .bad
def evB (isAnd : Bool) : Es → Sl → G → R D
  | .nil, _, _ => .bad
  | .cons e r, δ, g => (ev e δ g).bind fun x g1 => if r.isNil then .ok x g1 else (truR x g1).bind fun b g2 => if b == isAnd then evB isAnd r δ g2 else .ok x g2
def evTB (isAnd : Bool) : Es → Sl → G → R Bool
  | .nil, _, _ => .bad
  | .cons e r, δ, g => (evT e δ g).bind fun b g1 => if r.isNil then .ok b g1 else if b == isAnd then evTB isAnd r δ g1 else .ok b g1
def evs : Es → Sl → G → R (List D)
  | .nil, _, g => .ok [] g
  | .cons e r, δ, g => (ev e δ g).bind fun x g1 => (evs r δ g1).bind fun xs g2 => .ok (x :: xs) g2
/-- a clause's tests: none, or one -/
def evF : Es → Sl → G → R Bool
  | .nil, _, g => .ok true g
  | .cons e r, δ, g => if r.isNil then evT e δ g else .bad
def evO : Oe → Sl → G → R (Option Int)
  | .none, _, g => .ok none g
  | .some e, δ, g => (ev e δ g).bind fun x g1 => (asI x g1).bind fun i g2 => .ok (some i) g2
def evI : It → Sl → G → R Wk
  | .seq e, δ, g => (ev e δ g).bind fun x g1 => (match seqD x g1 with
    | some _ => .ok (wkSeq x) g1
    | none => keyW x g1)
  | .rng1 _ a _, δ, g => (ev a δ g).bind fun x g1 => (asI x g1).bind fun n g2 => if inR n then .ok (wkRng 0 n.toNat) g2 else .bad
  | .rng2 _ a b _, δ, g => (ev a δ g).bind fun x g1 => (ev b δ g1).bind fun y g2 => (asI x g2).bind fun lo g3 => (asI y g3).bind fun hi g4 => if inR lo && inR hi then .ok (wkRng lo (hi - lo).toNat) g4 else .bad
  | .zip _ a b _, δ, g => (ev a δ g).bind fun x g1 => (ev b δ g1).bind fun y g2 => (match zipD x y g2 with
    | some _ => .ok (wkZip x y) g2
    | none => .bad)
  | .enm _ a _, δ, g => (ev a δ g).bind fun x g1 => (match lstD x g1 with
    | some _ => .ok (wkEnm x) g1
    | none => .bad)
end
end
end PD
set_option Elab.async false
set_option linter.all false
set_option maxRecDepth 100000
set_option maxHeartbeats 4000000
/-! PD6: readings by meaning; what a context must have; simple expressions. -/
namespace PD
open PySem PySem.Spec PyProof.Rows L2
variable [Tb]
section
variable (K : PySem.W.Frag) (cA : Str → Addr) (W : WX)
/-- what is wanted of an exception, at the slots σ -/
def XP (A : List Addr) (H : Hp) (σ : L2.St) (c : Str) (fs : Fs) (g' : G) : Prop := ∀ A' H' dd fvs, Nx A H A' H' → Rel K A' g' H' → H' dd = some (.xd fvs) → RpF K A' H' fs fvs → W (.ref (cA c)) (some dd) σ H'
def tI (m : Sl → G → R D) : TE := fun σ H Q => ∃ A g δ, Rel K A g H ∧ LcR K A H δ σ ∧ (m δ g).sat (GoD K A H Q) (XP K cA W A H σ)
def tT (m : Sl → G → R Bool) : TT := fun σ H Q => ∃ A g δ, Rel K A g H ∧ LcR K A H δ σ ∧ (m δ g).sat (fun b g' => ∀ A' H', Nx A H A' H' → Rel K A' g' H' → Q b H') (XP K cA W A H σ)
def tA (m : Sl → G → R (List D)) : TA := fun σ H Q => ∃ A g δ, Rel K A g H ∧ LcR K A H δ σ ∧ (m δ g).sat (fun ds g' => ∀ A' H' vs, Nx A H A' H' → Rel K A' g' H' → RpL K A' H' ds vs → Q vs H') (XP K cA W A H σ)
def tOI (m : Sl → G → R (Option Int)) : TO := fun σ H Q => ∃ A g δ, Rel K A g H ∧ LcR K A H δ σ ∧ (m δ g).sat (fun o g' => ∀ A' H', Nx A H A' H' → Rel K A' g' H' → Q o H') (XP K cA W A H σ)
end
section
variable {K : PySem.W.Frag} {cA : Str → Addr} {W : WX} {A A1 : List Addr} {H H1 : Hp} {σ : L2.St}
theorem XP.nx {c : Str} {fs : Fs} {g : G} (x : Nx A H A1 H1) (h : XP K cA W A H σ c fs g) : XP K cA W A1 H1 σ c fs g := fun A' H' dd fvs n => h A' H' dd fvs (x.trans n)
theorem GoD.nx {Q : VK} {d : D} {g : G} (x : Nx A H A1 H1) (h : GoD K A H Q d g) : GoD K A1 H1 Q d g := fun A' H' v n => h A' H' v (x.trans n)
/-- one after another -/
theorem tI_bind {m : Sl → G → R D} {f : D → Sl → G → R D} {R2' : V → Hp → Prop} {Q : VK} (h : tI K cA W (fun δ g => (m δ g).bind fun x g1 => f x δ g1) σ H Q)
    (hn : ∀ A g δ x v H', Rel K A g H' → LcR K A H' δ σ → Rp K A H' x v → (f x δ g).sat (GoD K A H' Q) (XP K cA W A H' σ) → R2' v H') : tI K cA W m σ H R2' := by
  obtain ⟨A, g, δ, r, l, h⟩ := h
  rw [R.sat_bind] at h
  exact ⟨A, g, δ, r, l, R.sat_mono h (fun x g1 q A1 H1 v n r1 rv => hn A1 g1 δ x v H1 r1 (l.nx n) rv (R.sat_mono q (fun _ _ => GoD.nx n) fun _ _ _ => XP.nx n)) fun _ _ _ e => e⟩
end

/-! ### contexts -/
/-- a def that may be called -/
structure FnI where
  x : Str
  f : Addr
  fd : FuncData
  ps : List Str
  kss : List (List Str × List Nat)
/-- its promise -/
def spI (K : PySem.W.Frag) (cA : Str → Addr) (cl : Nat → List D → G → R D) (n : Nat) (i : Nat) : Sp := fun vs H Q E => vs.length = n ∧ ∃ A g ds, Rel K A g H ∧ RpL K A H ds vs ∧
  (cl i ds g).sat (GoD K A H Q) (XP K cA (fun cls d _ H => E cls d H) A H [])
/-- a def that is handed lambdas: its name; the classes that it catches, the words it tells, the fields -/
abbrev Lm : Type := Option (Str × List (Str × Str × Str))
def TMet (K : PySem.W.Frag) (cA : Str → Addr) (hs : List (Str × Str × Str)) : (XK → Hp → VK → Prop) → Hp → VK → Prop := fun tl H Q =>
  tl (fun cls d H' => ∃ c tag fld, hs.lookup c = some (tag, fld) ∧ cls = .ref (cA c) ∧ ∃ dd fvs v, d = some dd ∧ H' dd = some (.xd fvs) ∧ fvs.lookup fld = some v ∧ ∀ p, H' p = none → Q (.ref p) (upd H' p (.tup [.str tag, v]))) H
    fun v H1 => ∀ p, H1 p = none → Q (.ref p) (upd H1 p (.tup [.str "told", v]))
/-- what lambdas ask of the context -/
structure LamC (X : Cx) (cA : Str → Addr) (m : Str × List (Str × Str × Str)) (k : Nat) : Prop where
  room : Room (k + 2) X.A
  tabl : ∃ c P, X.env.code = .ref c ∧ LamX.TabB X.base X.mg c P ∧ (P, X.env.qual ++ "<lambda>") ∈ Tb.t ∧ ∀ p ∈ Tb.t, p.1 = P → p.2 = X.env.qual ++ "<lambda>"
  fn : ∃ (g : Addr) (pg : Arguments) (bg : List Stmt) (sg : Scope) (dV kV doc pm cdv ct oc : Value) (an od : Option Addr) (osl : Array (Option Value)) (Ng : List Str) (a : Str), X.mg m.1 = some (.ref g) ∧ PySem.W.keepIn X.K (.ref g) = true ∧
    X.K.lookup g = some ⟨oc, od, .func (PySem.W.fnOf m.1 m.1 pg bg sg dV kV doc pm an cdv ct), osl⟩ ∧ PySem.W.codeIn X.K cdv m.1 = true ∧ Binds X.K (PySem.W.fnOf m.1 m.1 pg bg sg dV kV doc pm an cdv ct) [a] [] ∧ FnScope Ng [a] sg ∧ Ng[0]? = some a ∧ Vis sg a ∧
    LamX.GivesTo X Ng m.1 sg g cdv bg a (X.env.qual ++ "<lambda>") (TMet X.K cA m.2) ∧ (a == ("__debug__" : Str)) = false ∧ (a == ("__classdict__" : Str)) = false
structure EnvOk (X : Cx) (cA : Str → Addr) (W : WX) (cl : Nat → List D → G → R D) (tab : Nat → Option FnI) (lm : Lm) (k : Nat) : Prop where
  calm : X.calm = true
  nd : X.N.Nodup
  room : Room k X.A
  takes : Takes X W
  nob : ∀ b : B, X.mg b.nm = none
  nor : X.mg "range" = none ∧ X.mg "zip" = none ∧ X.mg "enumerate" = none
  fns : ∀ i F, tab i = some F → X.mg F.x = some (.ref F.f) ∧ PySem.W.keepIn X.K (.ref F.f) = true ∧ Binds X.K F.fd F.ps [] ∧ FnOk X.prog X.w X.K X.mg X.base (CX X.prog X.w) k F.f F.fd F.ps (spI X.K cA cl F.ps.length i)
  kbs : ∀ i F ks idx, tab i = some F → (ks, idx) ∈ F.kss → idx.length = F.ps.length ∧ ∀ (s : Shared) (ws : List Value), X.K.In s.heap → ws.length = ks.length → BindsTo s F.fd ⟨[], ks.zip ws⟩ (F.ps.zip (idx.map fun j => ws.getD j .none))
  lam : ∀ m, lm = some m → LamC X cA m k
theorem EnvOk.u {X : Cx} {cA : Str → Addr} {W : WX} {cl : Nat → List D → G → R D} {tab : Nat → Option FnI} {lm : Lm} {k : Nat} (e : EnvOk X cA W cl tab lm k) : X.A.units + 65 < cLine := by have := e.room.un; omega
/-! ### names -/
def visB (sc : Scope) (x : Str) : Bool := match sc.names.lookup x with
  | some .local => true
  | some .cell => true
  | some .free => true
  | _ => false
def gloB (sc : Scope) (x : Str) : Bool := match sc.names.lookup x with
  | some .globalImplicit => !(x == ("__debug__" : Str))
  | _ => false
def locB (sc : Scope) (x : Str) : Bool := match sc.names.lookup x with
  | some .local => true
  | some .cell => true
  | _ => false
theorem visB_ok {sc : Scope} {x : Str} (h : visB sc x = true) : Vis sc x := by
  unfold visB at h
  split at h
  · rename_i e; exact .inl e
  · rename_i e; exact .inr (.inl e)
  · rename_i e; exact .inr (.inr e)
  · cases h
theorem locB_ok {sc : Scope} {x : Str} (h : locB sc x = true) : Loc sc x := by
  unfold locB at h
  split at h
  · rename_i e; exact .inl e
  · rename_i e; exact .inr e
  · cases h
theorem gloB_ok {X : Cx} {x : Str} (h : gloB X.env.scope x = true) : Gl X x ∧ (x == ("__debug__" : Str)) = false := by
  unfold gloB at h
  split at h
  · rename_i e
    exact ⟨e, by simpa using h⟩
  · cases h
theorem star_py (e : E) (es : List PySem.Expr) (env : Env) : starEach (e.py :: es) env = (false, eval e.py env) :: starEach es env := by cases e <;> rfl
theorem plain_pys : ∀ (es : Es) (env : Env) (pos : Pos), (backTo pos (starEach es.pys env)).any (·.1) = false
  | .nil, _, _ => rfl
  | .cons e r, env, pos => by
    show (backTo pos (starEach (e.py :: r.pys) env)).any (·.1) = false
    rw [star_py]
    show (false || (backTo pos (starEach r.pys env)).any (·.1)) = false
    rw [plain_pys r env pos]
    rfl
theorem boot_B (b : B) : bootBuiltins b.nm = some b.val := by cases b <;> rfl
theorem nm_ne (b : B) : b.nm ≠ "__name__" ∧ (b.nm == ("__debug__" : Str)) = false := by cases b <;> exact ⟨by decide, by decide⟩
section
variable {X : Cx} {cA : Str → Addr} {W : WX} {cl : Nat → List D → G → R D} {tab : Nat → Option FnI} {lm : Lm} {k : Nat}
theorem s_var {i : Nat} {x : Str} {p : Pos} (hN : X.N[i]? = some x) (hv : visB X.env.scope x = true) (hd : (x == ("__debug__" : Str)) = false) (hc : (x == ("__classdict__" : Str)) = false) : PE X (.Name x p) (tI X.K cA W (ev cl (.var i x p))) := by
  refine ⟨fun pins s σ H Q I ⟨A, g, δ, r, l, h⟩ => ?_⟩
  have h' : (ofO (δ[i]?).join g).sat (GoD X.K A H Q) (XP X.K cA W A H σ) := h
  cases e : (δ[i]?).join with
  | none => rw [e] at h'; exact absurd h' id
  | some d =>
    rw [e] at h'
    have e2 : δ[i]? = some (some d) := by
      cases q : δ[i]? with
      | none => rw [q] at e; cases e
      | some o => rw [q] at e; have : o = some d := e; rw [this]
    obtain ⟨v, h1, h2⟩ := l.get i d e2
    exact (pe_var (i := i) (pos := p) hN (visB_ok hv) hd hc).run pins s σ H Q I ⟨v, h1, h' A H v (Nx.refl _ _) r h2⟩
theorem s_const {e : PySem.Expr} {v : V} {d : D} (h : PE X e (tC v)) (hv : ∀ A H, Rp X.K A H d v) : PE X e (tI X.K cA W (fun _ g => .ok d g)) :=
  ⟨fun pins s σ H Q I ⟨A, g, δ, r, l, q⟩ => h.run pins s σ H Q I (q A H v (Nx.refl _ _) r (hv A H))⟩
theorem s_typ (C : EnvOk X cA W cl tab lm k) {b : B} {p : Pos} (hg : gloB X.env.scope b.nm = true) (ht : b.isTy = true) : PE X (.Name b.nm p) (tI X.K cA W (ev cl (.typ b p))) := by
  have e : b.val = .type b.id := by unfold B.val; rw [if_pos ht]
  exact s_const (v := .ty b.id) (pe_bltn (gloB_ok hg).1 (C.nob b) (boot_B b) (by rw [e]; exact rfl) (nm_ne b).1 (nm_ne b).2) fun _ _ => .ty _
/-- an operation of two values -/
theorem s_op2 {e : PySem.Expr} {ma mb : Sl → G → R D} {h : D → D → G → R D} (he : PE X e (tOp (r2 X.K h) (tI X.K cA W ma) (tI X.K cA W mb))) (hx : ∀ x y g c fs g', h x y g ≠ .ex c fs g') :
    PE X e (tI X.K cA W fun δ g => (ma δ g).bind fun x g1 => (mb δ g1).bind fun y g2 => h x y g2) := by
  refine ⟨fun pins s σ H Q I q => he.run pins s σ H Q I ?_⟩
  refine tI_bind (f := fun x δ g1 => (mb δ g1).bind fun y g2 => h x y g2) q fun A g δ x v H1 r l rx q1 => ?_
  rw [R.sat_bind] at q1
  refine ⟨A, g, δ, r, l, R.sat_mono q1 (fun y g2 q2 A2 H2 u n r2' ru => ?_) fun _ _ _ e => e⟩
  refine ⟨A2, g2, x, y, r2', rx.nx n, ru, ?_⟩
  cases e : h x y g2 with
  | bad => rw [e] at q2; exact absurd q2 id
  | ex c fs g' => exact absurd e (hx _ _ _ _ _ _)
  | ok d g3 =>
    rw [e] at q2
    exact GoD.nx n q2
theorem bin_nox : ∀ (op : Operator) (x y : D) (g : G) (c : Str) (fs : Fs) (g' : G), binD op x y g ≠ .ex c fs g' := by
  intro op x y g c fs g' e
  cases op with
  | Add =>
    have e' : dAdd x y g = .ex c fs g' := e
    unfold dAdd at e'
    split at e'
    · cases e'
    · split at e' <;> cases e'
    · split at e' <;> cases e'
    · split at e'
      · split at e' <;> cases e'
      · cases e'
    · cases e'
  | Sub => have e' : dSub x y g = .ex c fs g' := e; unfold dSub at e'; split at e' <;> cases e'
  | Mult => have e' : dMul x y g = .ex c fs g' := e; unfold dMul at e'; split at e' <;> first | cases e' | (split at e' <;> cases e')
  | FloorDiv => have e' : dDiv x y g = .ex c fs g' := e; unfold dDiv at e'; split at e' <;> first | cases e' | (split at e' <;> cases e')
  | Mod => have e' : dMod x y g = .ex c fs g' := e; unfold dMod at e'; split at e' <;> first | cases e' | (split at e' <;> cases e')
  | Pow => have e' : dPow x y g = .ex c fs g' := e; unfold dPow at e'; split at e' <;> first | cases e' | (split at e' <;> cases e')
  | _ => cases e
theorem ofB_nox {o : Option Bool} {g : G} {c : Str} {fs : Fs} {g' : G} : ofB o g ≠ .ex c fs g' := by cases o <;> exact fun z => nomatch z
theorem ofO_nox {o : Option D} {g : G} {c : Str} {fs : Fs} {g' : G} : ofO o g ≠ .ex c fs g' := by cases o <;> exact fun z => nomatch z
theorem cmpI_nox {p : Int → Int → Bool} {q : Str → Str → Option Bool} {x y : D} {g : G} {c : Str} {fs : Fs} {g' : G} : dCmpI p q x y g ≠ .ex c fs g' := fun e => by
  unfold dCmpI at e
  split at e
  · cases e
  · exact ofB_nox e
  · cases e
theorem is_nox {b : Bool} {x y : D} {g : G} {c : Str} {fs : Fs} {g' : G} : dIs b x y g ≠ .ex c fs g' := fun e => by
  unfold dIs at e
  split at e <;> cases e
theorem cmp_nox (op : CmpOp) (x y : D) (g : G) (c : Str) (fs : Fs) (g' : G) : cmpD op x y g ≠ .ex c fs g' := by
  cases op with
  | Eq => exact ofB_nox
  | NotEq => exact ofB_nox
  | Lt => exact cmpI_nox
  | LtE => exact cmpI_nox
  | Gt => exact cmpI_nox
  | GtE => exact cmpI_nox
  | Is => exact is_nox
  | IsNot => exact is_nox
  | In => exact ofB_nox
  | NotIn => exact ofB_nox
theorem s_bin {a b : E} {op : Operator} {p : Pos} (ha : PE X a.py (tI X.K cA W (ev cl a))) (hb : PE X b.py (tI X.K cA W (ev cl b))) : PE X (E.bin op a b p).py (tI X.K cA W (ev cl (.bin op a b p))) :=
  s_op2 (h := binD op) (pe_op (op_binP op) ha hb) (bin_nox op)
theorem op_cmpP (hu : X.A.units + 65 < cLine) : ∀ op : CmpOp, OpR X (compareOp op) (r2 X.K (cmpD op))
  | .Eq => op_eqP (by omega)
  | .NotEq => op_neP (by omega)
  | .Lt => op_cmpI op_lt fun pins s σ H v u vv uu Q I rv ru ⟨i, j, b, e1, e2, e3, q⟩ => op_lt_str pins s σ H v u vv uu Q I rv ru ⟨i, j, e1, e2, by rw [Option.some.inj e3]; exact q⟩
  | .LtE => op_cmpI op_le no_str
  | .Gt => op_cmpI op_gt no_str
  | .GtE => op_cmpI op_ge no_str
  | .Is => op_isP false
  | .IsNot => op_isP true
  | .In => op_inP hu false
  | .NotIn => op_inP hu true
theorem nomark_py (op : CmpOp) (b : E) : behindInMarks op b.py = false := by cases b <;> rfl
theorem s_cmp (C : EnvOk X cA W cl tab lm k) {a b : E} {op : CmpOp} {p : Pos} (ha : PE X a.py (tI X.K cA W (ev cl a))) (hb : PE X b.py (tI X.K cA W (ev cl b))) : PE X (E.cmp op a b p).py (tI X.K cA W (ev cl (.cmp op a b p))) :=
  s_op2 (h := cmpD op) (pe_cmpR (op_cmpP C.u op) ha hb (nomark_py op b)) (cmp_nox op)
theorem t_cmp (C : EnvOk X cA W cl tab lm k) {a b : E} {op : CmpOp} {p : Pos} (ha : PE X a.py (tI X.K cA W (ev cl a))) (hb : PE X b.py (tI X.K cA W (ev cl b))) : PT X (E.cmp op a b p).py (tT X.K cA W (evT cl (.cmp op a b p))) := by
  refine ⟨fun pins s σ H Q I ⟨A, g, δ, r, l, q⟩ => (pt_cmpR (op_cmpP C.u op) ha hb (nomark_py op b)).run pins s σ H Q I ?_⟩
  have q' : (((ev cl a δ g).bind fun x g1 => (ev cl b δ g1).bind fun y g2 => (cmpD op x y g2).bind fun z g3 => asB z g3)).sat (fun b g' => ∀ A' H', Nx A H A' H' → Rel X.K A' g' H' → Q b H') (XP X.K cA W A H σ) := q
  rw [R.sat_bind] at q'
  refine ⟨A, g, δ, r, l, R.sat_mono q' (fun x g1 q1 A1 H1 v n1 r1 rv => ?_) fun _ _ _ e => e⟩
  rw [R.sat_bind] at q1
  refine ⟨A1, g1, δ, r1, l.nx n1, R.sat_mono q1 (fun y g2 q2 A2 H2 u n2 r2' ru => ?_) fun _ _ _ e => XP.nx n1 e⟩
  rw [R.sat_bind] at q2
  refine ⟨A2, g2, x, y, r2', rv.nx n2, ru, ?_⟩
  cases e : cmpD op x y g2 with
  | bad => rw [e] at q2; exact absurd q2 id
  | ex c fs g' => exact absurd e (cmp_nox _ _ _ _ _ _ _)
  | ok d g3 =>
    rw [e] at q2
    intro A3 H3 w n3 r3 rw'
    cases rw' with
    | bl c => exact ⟨c, rfl, q2 A3 H3 ((n1.trans n2).trans n3) r3⟩
    | _ => exact absurd q2 id
end
end PD
set_option Elab.async false
set_option linter.all false
set_option maxRecDepth 100000
set_option maxHeartbeats 4000000
/-! PD7: expressions, on. -/
namespace PD
open PySem PySem.Spec PyProof.Rows L2
variable [Tb]
section
variable {X : Cx} {cA : Str → Addr} {W : WX} {cl : Nat → List D → G → R D} {tab : Nat → Option FnI} {lm : Lm} {k : Nat}
theorem boo_rp {K : PySem.W.Frag} {A : List Addr} {H : Hp} {Q : VK} {b : Bool} {g : G} (h : GoD K A H Q (.bl b) g) (r : Rel K A g H) : Q (.bl b) H := h A H _ (Nx.refl _ _) r (.bl b)
theorem s_neg {a : E} {p : Pos} (ha : PE X a.py (tI X.K cA W (ev cl a))) : PE X (E.neg a p).py (tI X.K cA W (ev cl (.neg a p))) := by
  refine ⟨fun pins s σ H Q I q => (pe_un un_neg ha).run pins s σ H Q I ?_⟩
  refine tI_bind (f := fun x δ g1 => (asI x g1).bind fun i g2 => .ok (.int (-i)) g2) q fun A g δ x v H1 r l rx q1 => ?_
  cases rx with
  | int i => exact ⟨i, rfl, q1 A H1 _ (Nx.refl _ _) r (.int _)⟩
  | _ => exact absurd q1 id
theorem truR_sat {K : PySem.W.Frag} {A : List Addr} {H : Hp} {g : G} {x : D} {v : V} {Q : Bool → G → Prop} {E' : Str → Fs → G → Prop} (r : Rel K A g H) (hx : Rp K A H x v) (h : (truR x g).sat Q E') : ∃ b, truD x g = some b ∧ TruV K v H b ∧ Q b g := by
  unfold truR at h
  split at h
  · rename_i b e
    exact ⟨b, e, truD_ok r hx e, h⟩
  · exact absurd h id
theorem s_nt {a : E} {p : Pos} (ha : PE X a.py (tI X.K cA W (ev cl a))) : PE X (E.nt a p).py (tI X.K cA W (ev cl (.nt a p))) := by
  refine ⟨fun pins s σ H Q I q => (pe_notT ha).run pins s σ H Q I ?_⟩
  refine tI_bind (f := fun x δ g1 => (truR x g1).bind fun b g2 => .ok (.bl (!b)) g2) q fun A g δ x v H1 r l rx q1 => ?_
  rw [R.sat_bind] at q1
  obtain ⟨b, e, t, q2⟩ := truR_sat r rx q1
  exact ⟨b, t, q2 A H1 _ (Nx.refl _ _) r (.bl _)⟩
theorem t_nt {a : E} {p : Pos} (ha : PT X a.py (tT X.K cA W (evT cl a))) : PT X (E.nt a p).py (tT X.K cA W (evT cl (.nt a p))) := by
  refine ⟨fun pins s σ H Q I ⟨A, g, δ, r, l, q⟩ => (pt_not ha).run pins s σ H Q I ?_⟩
  have q' : ((evT cl a δ g).bind fun b g1 => .ok (!b) g1).sat (fun b g' => ∀ A' H', Nx A H A' H' → Rel X.K A' g' H' → Q b H') (XP X.K cA W A H σ) := q
  rw [R.sat_bind] at q'
  exact ⟨A, g, δ, r, l, R.sat_mono q' (fun b g1 q1 A1 H1 n r1 => q1 A1 H1 n r1) fun _ _ _ e => e⟩
/-- a value's truth as a test -/
theorem t_val {e : PySem.Expr} {m : Sl → G → R D} (h : PE X e (tI X.K cA W m)) (he : ∀ whole, isTrue e X.env whole = (do let v ← whole; standAt e.pos; holding [v] (truthy v))) :
    PT X e (tT X.K cA W fun δ g => (m δ g).bind fun x g1 => truR x g1) := by
  refine ⟨fun pins s σ H Q I ⟨A, g, δ, r, l, q⟩ => (pt_truth h he).run pins s σ H Q I ?_⟩
  rw [R.sat_bind] at q
  refine ⟨A, g, δ, r, l, R.sat_mono q (fun x g1 q1 A1 H1 v n r1 rv => ?_) fun _ _ _ e => e⟩
  obtain ⟨b, e, t, q2⟩ := truR_sat r1 rv q1
  exact ⟨b, t, q2 A1 H1 n r1⟩
/-! ### and, or -/
theorem s_bop1 {isAnd : Bool} {a : E} {p : Pos} (ha : PE X a.py (tI X.K cA W (ev cl a))) : PE X (.BoolOp (if isAnd then .And else .Or) [a.py] p) (tI X.K cA W (evB cl isAnd (.cons a .nil))) := by
  refine ⟨fun pins s σ H Q I ⟨A, g, δ, r, l, q⟩ => (pe_one ha).run pins s σ H Q I ⟨A, g, δ, r, l, ?_⟩⟩
  have q' : ((ev cl a δ g).bind fun x g1 => if Es.nil.isNil then .ok x g1 else (truR x g1).bind fun b g2 => if b == isAnd then evB cl isAnd .nil δ g2 else .ok x g2).sat (GoD X.K A H Q) (XP X.K cA W A H σ) := q
  rw [R.sat_bind] at q'
  exact R.sat_mono q' (fun x g1 q1 => q1) fun _ _ _ e => e
theorem s_bopc {isAnd : Bool} {a b : E} {r : Es} {p : Pos} (ha : PE X a.py (tI X.K cA W (ev cl a))) (hb : PE X (.BoolOp (if isAnd then .And else .Or) (b.py :: r.pys) p) (tI X.K cA W (evB cl isAnd (.cons b r)))) :
    PE X (.BoolOp (if isAnd then .And else .Or) (a.py :: b.py :: r.pys) p) (tI X.K cA W (evB cl isAnd (.cons a (.cons b r)))) := by
  have key : ∀ σ H Q, tI X.K cA W (evB cl isAnd (.cons a (.cons b r))) σ H Q → tI X.K cA W (ev cl a) σ H fun v H1 => ∃ k, TruV X.K v H1 k ∧ if k = isAnd then tI X.K cA W (evB cl isAnd (.cons b r)) σ H1 Q else Q v H1 := fun σ H Q q => by
    refine tI_bind (f := fun x δ g1 => if (Es.cons b r).isNil then .ok x g1 else (truR x g1).bind fun b' g2 => if b' == isAnd then evB cl isAnd (.cons b r) δ g2 else .ok x g2) q fun A g δ x v H1 rr l rx q1 => ?_
    have q2 : ((truR x g).bind fun b' g2 => if b' == isAnd then evB cl isAnd (.cons b r) δ g2 else .ok x g2).sat (GoD X.K A H1 Q) (XP X.K cA W A H1 σ) := q1
    rw [R.sat_bind] at q2
    obtain ⟨c, e, t, q3⟩ := truR_sat rr rx q2
    refine ⟨c, t, ?_⟩
    by_cases hc : c = isAnd
    · rw [if_pos hc]
      subst hc
      simp only [beq_self_eq_true, if_true] at q3
      exact ⟨A, g, δ, rr, l, q3⟩
    · rw [if_neg hc]
      have z : (c == isAnd) = false := beq_eq_false_iff_ne.mpr hc
      rw [z] at q3
      exact q3 A H1 v (Nx.refl _ _) rr rx
  cases isAnd with
  | true => exact ⟨fun pins s σ H Q I q => (pe_andT ha hb).run pins s σ H Q I (key σ H Q q)⟩
  | false =>
    refine ⟨fun pins s σ H Q I q => (pe_orT ha hb).run pins s σ H Q I ?_⟩
    obtain ⟨A, g, δ, rr, l, q1⟩ := key σ H Q q
    refine ⟨A, g, δ, rr, l, R.sat_mono q1 (fun x g1 q2 A1 H1 v n r1 rv => ?_) fun _ _ _ e => e⟩
    obtain ⟨c, t, z⟩ := q2 A1 H1 v n r1 rv
    refine ⟨c, t, ?_⟩
    cases c with
    | true => simpa using z
    | false => simpa using z
theorem t_bop1 {isAnd : Bool} {a : E} {p : Pos} (ha : PT X a.py (tT X.K cA W (evT cl a))) : PW X (.BoolOp (if isAnd then .And else .Or) [a.py] p) (tT X.K cA W (evTB cl isAnd (.cons a .nil))) := by
  have key : ∀ σ H Q, tT X.K cA W (evTB cl isAnd (.cons a .nil)) σ H Q → tT X.K cA W (evT cl a) σ H Q := fun σ H Q ⟨A, g, δ, r, l, q⟩ => by
    have q' : ((evT cl a δ g).bind fun b g1 => if Es.nil.isNil then .ok b g1 else if b == isAnd then evTB cl isAnd .nil δ g1 else .ok b g1).sat (fun b g' => ∀ A' H', Nx A H A' H' → Rel X.K A' g' H' → Q b H') (XP X.K cA W A H σ) := q
    rw [R.sat_bind] at q'
    exact ⟨A, g, δ, r, l, R.sat_mono q' (fun x g1 q1 => q1) fun _ _ _ e => e⟩
  cases isAnd with
  | true => exact ⟨fun wh pins s σ H Q I q => (pw_and1 ha).run wh pins s σ H Q I (key σ H Q q)⟩
  | false => exact ⟨fun wh pins s σ H Q I q => (pw_or1 ha).run wh pins s σ H Q I (key σ H Q q)⟩
theorem t_bopc {isAnd : Bool} {a b : E} {r : Es} {p : Pos} (ha : PT X a.py (tT X.K cA W (evT cl a))) (hb : PW X (.BoolOp (if isAnd then .And else .Or) (b.py :: r.pys) p) (tT X.K cA W (evTB cl isAnd (.cons b r)))) :
    PW X (.BoolOp (if isAnd then .And else .Or) (a.py :: b.py :: r.pys) p) (tT X.K cA W (evTB cl isAnd (.cons a (.cons b r)))) := by
  have key : ∀ σ H Q, tT X.K cA W (evTB cl isAnd (.cons a (.cons b r))) σ H Q → tT X.K cA W (evT cl a) σ H fun c H1 => if c = isAnd then tT X.K cA W (evTB cl isAnd (.cons b r)) σ H1 Q else Q c H1 := fun σ H Q ⟨A, g, δ, rr, l, q⟩ => by
    have q' : ((evT cl a δ g).bind fun c g1 => if (Es.cons b r).isNil then .ok c g1 else if c == isAnd then evTB cl isAnd (.cons b r) δ g1 else .ok c g1).sat (fun b g' => ∀ A' H', Nx A H A' H' → Rel X.K A' g' H' → Q b H') (XP X.K cA W A H σ) := q
    rw [R.sat_bind] at q'
    refine ⟨A, g, δ, rr, l, R.sat_mono q' (fun c g1 q1 A1 H1 n r1 => ?_) fun _ _ _ e => e⟩
    have q2 : (if c == isAnd then evTB cl isAnd (.cons b r) δ g1 else .ok c g1).sat (fun b g' => ∀ A' H', Nx A H A' H' → Rel X.K A' g' H' → Q b H') (XP X.K cA W A H σ) := q1
    dsimp only
    by_cases hc : c = isAnd
    · rw [if_pos hc]
      subst hc
      simp only [beq_self_eq_true, if_true] at q2
      exact ⟨A1, g1, δ, r1, l.nx n, R.sat_mono q2 (fun b' g' z A' H' n' r' => z A' H' (n.trans n') r') fun _ _ _ e => XP.nx n e⟩
    · rw [if_neg hc]
      have z : (c == isAnd) = false := beq_eq_false_iff_ne.mpr hc
      rw [z] at q2
      exact q2 A1 H1 n r1
  have flip : ∀ σ H Q, tT X.K cA W (evTB cl false (.cons a (.cons b r))) σ H Q → isAnd = false → tT X.K cA W (evT cl a) σ H fun c H1 => if c = true then Q true H1 else tT X.K cA W (evTB cl false (.cons b r)) σ H1 Q := fun σ H Q q e => by
    subst e
    obtain ⟨A, g, δ, rr, l, q1⟩ := key σ H Q q
    refine ⟨A, g, δ, rr, l, R.sat_mono q1 (fun c g1 q2 A1 H1 n r1 => ?_) fun _ _ _ e => e⟩
    have z := q2 A1 H1 n r1
    cases c with
    | true => simpa using z
    | false => simpa using z
  cases isAnd with
  | true =>
    refine ⟨fun wh pins s σ H Q I q => (pw_and ha hb).run wh pins s σ H Q I ?_⟩
    obtain ⟨A, g, δ, rr, l, q1⟩ := key σ H Q q
    refine ⟨A, g, δ, rr, l, R.sat_mono q1 (fun c g1 q2 A1 H1 n r1 => ?_) fun _ _ _ e => e⟩
    have z := q2 A1 H1 n r1
    cases c with
    | true => simpa using z
    | false => simpa using z
  | false => exact ⟨fun wh pins s σ H Q I q => (pw_or ha hb).run wh pins s σ H Q I (flip σ H Q q rfl)⟩
theorem s_ife {c a b : E} {p : Pos} (hc : PT X c.py (tT X.K cA W (evT cl c))) (ha : PE X a.py (tI X.K cA W (ev cl a))) (hb : PE X b.py (tI X.K cA W (ev cl b))) : PE X (E.ife c a b p).py (tI X.K cA W (ev cl (.ife c a b p))) := by
  refine ⟨fun pins s σ H Q I ⟨A, g, δ, r, l, q⟩ => (pe_ifExp hc ha hb).run pins s σ H Q I ?_⟩
  have q' : ((evT cl c δ g).bind fun k g1 => if k then ev cl a δ g1 else ev cl b δ g1).sat (GoD X.K A H Q) (XP X.K cA W A H σ) := q
  rw [R.sat_bind] at q'
  refine ⟨A, g, δ, r, l, R.sat_mono q' (fun z g1 q1 A1 H1 n r1 => ?_) fun _ _ _ e => e⟩
  cases z with
  | true => exact ⟨A1, g1, δ, r1, l.nx n, R.sat_mono q1 (fun _ _ => GoD.nx n) fun _ _ _ => XP.nx n⟩
  | false => exact ⟨A1, g1, δ, r1, l.nx n, R.sat_mono q1 (fun _ _ => GoD.nx n) fun _ _ _ => XP.nx n⟩
/-! ### subscripts, displays -/
theorem plainIx_py (i : E) : PlainIx i.py := by cases i <;> exact fun _ _ => rfl
theorem s_idx (C : EnvOk X cA W cl tab lm k) {a i : E} {p : Pos} (ha : PE X a.py (tI X.K cA W (ev cl a))) (hi : PE X i.py (tI X.K cA W (ev cl i))) : PE X (E.idx a i p).py (tI X.K cA W (ev cl (.idx a i p))) :=
  s_op2 (h := dIdx) (pe_ix (ix_P (by have := C.u; omega)) ha hi (plainIx_py i)) fun _ _ _ _ _ _ => ofO_nox
theorem s_onone : PO X none (tOI X.K cA W (evO cl .none)) := ⟨fun pins s σ H Q I ⟨A, g, δ, r, l, q⟩ => po_none.run pins s σ H Q I (q A H (Nx.refl _ _) r)⟩
theorem s_osome {e : E} (h : PE X e.py (tI X.K cA W (ev cl e))) : PO X (some e.py) (tOI X.K cA W (evO cl (.some e))) := by
  refine ⟨fun pins s σ H Q I ⟨A, g, δ, r, l, q⟩ => (po_some h).run pins s σ H Q I ?_⟩
  have q' : ((ev cl e δ g).bind fun x g1 => (asI x g1).bind fun i g2 => .ok (some i) g2).sat (fun o g' => ∀ A' H', Nx A H A' H' → Rel X.K A' g' H' → Q o H') (XP X.K cA W A H σ) := q
  rw [R.sat_bind] at q'
  refine ⟨A, g, δ, r, l, R.sat_mono q' (fun x g1 q1 A1 H1 v n r1 rv => ?_) fun _ _ _ e => e⟩
  cases rv with
  | int i => exact ⟨i, rfl, q1 A1 H1 n r1⟩
  | _ => exact absurd q1 id
theorem sl_nox {x : D} {lo hi : Option Int} {g : G} {c : Str} {fs : Fs} {g' : G} : dSl x lo hi g ≠ .ex c fs g' := fun e => by
  unfold dSl at e
  split at e
  · split at e <;> cases e
  · cases e
  · split at e <;> cases e
  · cases e
theorem s_slc {a : E} {lo hi : Oe} {p2 p : Pos} (ha : PE X a.py (tI X.K cA W (ev cl a))) (hl : PO X lo.py (tOI X.K cA W (evO cl lo))) (hh : PO X hi.py (tOI X.K cA W (evO cl hi))) : PE X (E.slc a lo hi p2 p).py (tI X.K cA W (ev cl (.slc a lo hi p2 p))) := by
  refine ⟨fun pins s σ H Q I q => (pe_slice sl_P ha hl hh).run pins s σ H Q I ?_⟩
  refine tI_bind (f := fun x δ g1 => (evO cl lo δ g1).bind fun l g2 => (evO cl hi δ g2).bind fun h g3 => dSl x l h g3) q fun A g δ x v H1 r l rx q1 => ?_
  rw [R.sat_bind] at q1
  refine ⟨A, g, δ, r, l, R.sat_mono q1 (fun o g2 q2 A2 H2 n2 r2' => ?_) fun _ _ _ e => e⟩
  rw [R.sat_bind] at q2
  refine ⟨A2, g2, δ, r2', l.nx n2, R.sat_mono q2 (fun u g3 q3 A3 H3 n3 r3 => ?_) fun _ _ _ e => XP.nx n2 e⟩
  refine ⟨A3, g3, x, r3, (rx.nx n2).nx n3, ?_⟩
  cases e : dSl x o u g3 with
  | bad => rw [e] at q3; exact absurd q3 id
  | ex c fs g' => exact absurd e sl_nox
  | ok d g4 =>
    rw [e] at q3
    exact GoD.nx (n2.trans n3) q3
theorem s_anil : PA X [] (tA X.K cA W (evs cl .nil)) := ⟨fun pos pins s σ H Q I ⟨A, g, δ, r, l, q⟩ => pa_nil.run pos pins s σ H Q I (q A H [] (Nx.refl _ _) r .nil)⟩
theorem s_acons {e : E} {es : Es} (h : PE X e.py (tI X.K cA W (ev cl e))) (hr : PA X es.pys (tA X.K cA W (evs cl es))) : PA X (e.py :: es.pys) (tA X.K cA W (evs cl (.cons e es))) := by
  refine ⟨fun pos pins s σ H Q I ⟨A, g, δ, r, l, q⟩ => (pa_cons h hr (star_py e es.pys X.env)).run pos pins s σ H Q I ?_⟩
  have q' : ((ev cl e δ g).bind fun x g1 => (evs cl es δ g1).bind fun xs g2 => .ok (x :: xs) g2).sat (fun ds g' => ∀ A' H' vs, Nx A H A' H' → Rel X.K A' g' H' → RpL X.K A' H' ds vs → Q vs H') (XP X.K cA W A H σ) := q
  rw [R.sat_bind] at q'
  refine ⟨A, g, δ, r, l, R.sat_mono q' (fun x g1 q1 A1 H1 v n r1 rv => ?_) fun _ _ _ e => e⟩
  rw [R.sat_bind] at q1
  exact ⟨A1, g1, δ, r1, l.nx n, R.sat_mono q1 (fun xs g2 q2 A2 H2 vs n2 r2' rvs => q2 A2 H2 (v :: vs) (n.trans n2) r2' (.cons (rv.nx n2) rvs)) fun _ _ _ e => XP.nx n e⟩
/-- an argument list, then what is made of it -/
theorem tA_bind {m : Sl → G → R (List D)} {f : List D → G → R D} {σ : L2.St} {H : Hp} {Q : VK} {R2' : List V → Hp → Prop} (h : tI X.K cA W (fun δ g => (m δ g).bind fun x g1 => f x g1) σ H Q)
    (hn : ∀ A g δ xs vs H', Rel X.K A g H' → LcR X.K A H' δ σ → RpL X.K A H' xs vs → (f xs g).sat (GoD X.K A H' Q) (XP X.K cA W A H' σ) → R2' vs H') : tA X.K cA W m σ H R2' := by
  obtain ⟨A, g, δ, r, l, h⟩ := h
  rw [R.sat_bind] at h
  exact ⟨A, g, δ, r, l, R.sat_mono h (fun xs g1 q A1 H1 vs n r1 rv => hn A1 g1 δ xs vs H1 r1 (l.nx n) rv (R.sat_mono q (fun _ _ => GoD.nx n) fun _ _ _ => XP.nx n)) fun _ _ _ e => e⟩
theorem s_tup {es : Es} {j : Nat} {p : Pos} (h : PA X es.pys (tA X.K cA W (evs cl es))) : PE X (E.tup es j p).py (tI X.K cA W (ev cl (.tup es j p))) := by
  refine ⟨fun pins s σ H Q I q => (pe_tup h).run pins s σ H Q I ?_⟩
  refine tA_bind (f := fun xs g1 => if xs.length ≤ sizeLine then .ok (.tup xs) g1 else .bad) q fun A g δ xs vs H' r l rv q1 => ?_
  split at q1
  · rename_i hl
    exact ⟨by rw [← rv.len]; exact hl, new_tup r rv q1⟩
  · exact absurd q1 id
theorem s_lst {es : Es} {p : Pos} (h : PA X es.pys (tA X.K cA W (evs cl es))) : PE X (E.lst es p).py (tI X.K cA W (ev cl (.lst es p))) := by
  refine ⟨fun pins s σ H Q I q => (pe_lst h).run pins s σ H Q I ?_⟩
  refine tA_bind (f := fun xs g1 => if xs.length ≤ sizeLine then newL xs g1 else .bad) q fun A g δ xs vs H' r l rv q1 => ?_
  split at q1
  · rename_i hl
    exact ⟨by rw [← rv.len]; exact hl, new_lst r rv q1⟩
  · exact absurd q1 id
/-! ### calls of built-ins -/
theorem blt_nox {b : B} {xs : List D} {g : G} {c : Str} {fs : Fs} {g' : G} : bltD b xs g ≠ .ex c fs g' := fun e => by
  unfold bltD at e
  split at e
  · unfold lenR at e; split at e
    · cases e
    · split at e <;> cases e
  · cases e
  · exact ofB_nox e
  · exact ofB_nox e
  · exact ofB_nox e
  · cases e
  · cases e
  · split at e <;> cases e
  · split at e
    · cases e
    · split at e <;> cases e
  · split at e
    · cases e
    · split at e <;> cases e
  · revert e; unfold ofI; split <;> exact fun z => nomatch z
  · unfold strOfInt at e; split at e <;> cases e
  · cases e
  · unfold strOfInt at e; split at e <;> cases e
  · cases e
  · cases e
  · revert e; unfold ofI; split <;> exact fun z => nomatch z
  · revert e; unfold ofI; split <;> exact fun z => nomatch z
  · unfold dSort at e
    split at e
    · split at e
      · split at e <;> cases e
      · cases e
    · cases e
  · cases e
theorem s_blt (C : EnvOk X cA W cl tab lm k) {b : B} {px p : Pos} {e : E} {es : Es} (hg : gloB X.env.scope b.nm = true) (h : PA X (e.py :: es.pys) (tA X.K cA W (evs cl (.cons e es)))) : PE X (E.blt b px (.cons e es) p).py (tI X.K cA W (ev cl (.blt b px (.cons e es) p))) := by
  have hc := bltD_ok C.calm (by have := C.room.un; omega) b
  have main : ∀ t : TE, PE X (.Call (.Name b.nm px) (e.py :: es.pys) [] p) (tCB (rC X.K (bltD b)) (tA X.K cA W (evs cl (.cons e es)))) → PE X (E.blt b px (.cons e es) p).py (tI X.K cA W (ev cl (.blt b px (.cons e es) p))) := fun t he => by
    refine ⟨fun pins s σ H Q I q => he.run pins s σ H Q I ?_⟩
    refine tA_bind (f := fun xs g1 => bltD b xs g1) q fun A g δ xs vs H' r l rv q1 => ?_
    refine ⟨A, g, xs, r, rv, ?_⟩
    cases e : bltD b xs g with
    | bad => rw [e] at q1; exact absurd q1 id
    | ex c fs g' => exact absurd e blt_nox
    | ok d g4 => rw [e] at q1; exact q1
  have e1 : bootBuiltins b.nm = some b.val := boot_B b
  unfold B.val at hc e1
  by_cases ht : b.isTy = true
  · rw [if_pos ht] at hc e1
    exact main (tC .non) (pe_callTy hc (gloB_ok hg).1 (C.nob b) e1 h (nm_ne b).1 (nm_ne b).2 (star_py e es.pys X.env) (plain_pys es X.env p))
  · rw [if_neg ht] at hc e1
    exact main (tC .non) (pe_callB hc (gloB_ok hg).1 (C.nob b) e1 h (nm_ne b).1 (nm_ne b).2 (star_py e es.pys X.env) (plain_pys es X.env p))
end
end PD
set_option Elab.async false
set_option linter.all false
set_option maxRecDepth 100000
set_option maxHeartbeats 4000000
/-! PD8: calls of defs, methods, dict displays. -/
namespace PD
open PySem PySem.Spec PyProof.Rows L2
variable [Tb]
/-! ### methods of lists -/
def rM (K : PySem.W.Frag) (m : M) : V → List V → Hp → VK → Prop := fun v vs H Q => ∃ A g x xs, Rel K A g H ∧ Rp K A H x v ∧ RpL K A H xs vs ∧ (mthD m x xs g).sat (GoD K A H Q) NoE
theorem idxP_ok : ∀ {ys : List PyData} {x : PyData} {j : Nat}, idxP ys x = some j → ∃ z, ys[j]? = some z ∧ PyData.eqv z x = true ∧ ∀ (m : Nat) (z' : PyData), m < j → ys[m]? = some z' → PyData.eqv z' x = false
  | [], _, _, e => by cases e
  | y :: r, x, j, e => by
    unfold idxP at e
    split at e
    · rename_i h
      cases e
      exact ⟨y, rfl, h, fun m z' hm => absurd hm (Nat.not_lt_zero m)⟩
    · rename_i h
      cases q : idxP r x with
      | none => rw [q] at e; cases e
      | some j' =>
        rw [q] at e
        have e2 : j' + 1 = j := Option.some.inj e
        subst e2
        obtain ⟨z, h1, h2, h3⟩ := idxP_ok q
        refine ⟨z, by simpa using h1, h2, fun m z' hm hz => ?_⟩
        cases m with
        | zero =>
          have : y = z' := by simpa using hz
          subst this
          exact Bool.eq_false_iff.mpr h
        | succ m => exact h3 m z' (by omega) (by simpa using hz)
theorem lstAt_at {x : D} {g : G} {n : Nat} {ds : List D} (h : lstAt x g = some (n, ds)) : g[n]? = some (.lst ds) := by
  unfold lstAt at h
  split at h
  · split at h
    · rename_i e; cases h; exact e
    · cases h
  · cases h
theorem set_lst {K : PySem.W.Frag} {A : List Addr} {H : Hp} {g : G} {n : Nat} {a : Addr} {ds : List D} {vs : List V} (r : Rel K A g H) {ds0 : List D} (en : g[n]? = some (.lst ds0)) (ha : A[n]? = some a) (h : RpL K A H ds vs) : Rel K A (g.set n (.lst ds)) (upd H a (.lst vs)) ∧ Nx A H A (upd H a (.lst vs)) :=
  r.write (o := .lst ds) (u := .lst vs) ha (fun kvs z => by rw [en] at z; cases z) fun A' H' x e => ⟨vs, e, RpL.nx x h⟩
theorem erase_rp {K : PySem.W.Frag} {A : List Addr} {H : Hp} : ∀ {ds : List D} {vs : List V} (i : Nat), RpL K A H ds vs → RpL K A H (ds.eraseIdx i) (vs.eraseIdx i)
  | _, _, _, .nil => .nil
  | _, _, 0, .cons _ t => t
  | _, _, i + 1, .cons h t => .cons h (erase_rp i t)
section
variable {X : Cx}
theorem lst_of {K : PySem.W.Frag} {A : List Addr} {H : Hp} {g : G} (r : Rel K A g H) {n : Nat} {a : Addr} (ha : A[n]? = some a) {ds : List D} (e : g[n]? = some (.lst ds)) : ∃ vs, H a = some (.lst vs) ∧ RpL K A H ds vs := r.obj n _ a e ha
theorem lstAt_ok {K : PySem.W.Frag} {A : List Addr} {H : Hp} {g : G} (r : Rel K A g H) {x : D} {v : V} {n : Nat} {ds : List D} (hx : Rp K A H x v) (e : lstAt x g = some (n, ds)) : ∃ a vs, v = .ref a ∧ A[n]? = some a ∧ H a = some (.lst vs) ∧ RpL K A H ds vs := by
  cases hx with
  | @ref m a ha =>
    have e' : (match g[m]? with
      | some (.lst ds) => some (m, ds)
      | _ => none) = some (n, ds) := e
    split at e'
    · rename_i ds' en
      cases e'
      obtain ⟨vs, h1, h2⟩ := lst_of r ha en
      exact ⟨a, vs, rfl, ha, h1, h2⟩
    · cases e'
  | _ => cases e
theorem isLst_ok {K : PySem.W.Frag} {A : List Addr} {H : Hp} {g : G} (r : Rel K A g H) {x : D} {v : V} (hx : Rp K A H x v) (e : isLst x g = true) : tyV K "list" v H := by
  cases hx with
  | @ref m a ha =>
    have e' : (match g[m]? with
      | some (.lst _) => true
      | _ => false) = true := e
    split at e'
    · rename_i ds' en
      obtain ⟨vs, h1, h2⟩ := lst_of r ha en
      exact .inl ⟨rfl, vs, .of h1⟩
    · cases e'
  | _ => cases e
def idM : M → String
  | .append => "list.append" | .extend => "list.extend" | .pop => "list.pop" | .index => "list.index"
theorem mth_ok (hu : X.A.units + 65 < cLine) (m : M) : MtM X (idM m) (rM X.K m) := by
  intro pins s σ H v vs vv us Q I rv rvs ⟨A, g, x, xs, r, hx, hxs, h⟩
  unfold mthD at h
  split at h
  · rename_i y
    obtain ⟨u, rfl, hy⟩ := rpl1 hxs
    cases m with
    | append =>
      have h' : (dApp x y g).sat (GoD X.K A H Q) NoE := h
      unfold dApp at h'
      split at h'
      · rename_i n ds e
        obtain ⟨a, ws, rfl, ha, h1, h2⟩ := lstAt_ok r hx e
        split at h'
        · rename_i hl
          obtain ⟨r1, n1⟩ := set_lst r (lstAt_at e) ha (h2.append (.cons hy .nil))
          exact mt_append pins s σ H _ _ vv us Q I rv rvs ⟨_, ws, u, rfl, rfl, h1, by rw [← h2.len]; exact hl, h' A _ _ n1 r1 .non⟩
        · exact absurd h' id
      · exact absurd h' id
    | extend =>
      have h' : (dExt x y g).sat (GoD X.K A H Q) NoE := h
      unfold dExt at h'
      split at h'
      · rename_i n ds n2 es e e2
        obtain ⟨a, ws, rfl, ha, h1, h2⟩ := lstAt_ok r hx e
        obtain ⟨b, zs, rfl, hb, h3, h4⟩ := lstAt_ok r hy e2
        split at h'
        · rename_i hl
          obtain ⟨r1, n1⟩ := set_lst r (lstAt_at e) ha (h2.append h4)
          exact mt_extend pins s σ H _ _ vv us Q I rv rvs ⟨_, _, ws, zs, rfl, rfl, h1, h3, by rw [← h2.len, ← h4.len]; exact hl, h' A _ _ n1 r1 .non⟩
        · exact absurd h' id
      · exact absurd h' id
    | pop =>
      cases hy with
      | int i =>
        have h' : (dPop x i g).sat (GoD X.K A H Q) NoE := h
        unfold dPop at h'
        split at h'
        · rename_i n ds e
          obtain ⟨a, ws, rfl, ha, h1, h2⟩ := lstAt_ok r hx e
          split at h'
          · rename_i hb
            split at h'
            · rename_i j ej
              split at h'
              · rename_i y ey
                obtain ⟨vy, e1, e2⟩ := h2.get ey
                obtain ⟨r1, n1⟩ := set_lst r (lstAt_at e) ha (erase_rp j h2)
                exact mt_popAt pins s σ H _ _ vv us Q I rv rvs ⟨_, ws, i, j, vy, rfl, rfl, h1, hb.1, hb.2, by rw [← h2.len]; exact ej, e1, h' A _ _ n1 r1 (e2.nx n1)⟩
              · exact absurd h' id
            · exact absurd h' id
          · exact absurd h' id
        · exact absurd h' id
      | _ => exact absurd h id
    | index =>
      have h' : (dInx x y g).sat (GoD X.K A H Q) NoE := h
      unfold dInx at h'
      split at h'
      · rename_i n ds d e e1
        obtain ⟨a, ws, rfl, ha, h1, h2⟩ := lstAt_ok r hx e
        split at h'
        · rename_i es e2
          split at h'
          · rename_i hs
            rw [Bool.and_eq_true] at hs
            cases ej : idxP es d with
            | none => rw [ej] at h'; exact absurd h' id
            | some j =>
              rw [ej] at h'
              obtain ⟨z, z1, z2, z3⟩ := idxP_ok ej
              have q : Q (.int (j : Int)) H := h' A H _ (Nx.refl _ _) r (.int _)
              exact mt_indexD hu pins s σ H _ _ vv us Q I rv rvs ⟨_, u, d, es, j, z, rfl, rfl, .lst (.of h1) (allP_ok (toP_ok r 69) h2 e2), toP_ok r _ _ _ _ hy e1, hs.2, hs.1, z1, z2, z3, q⟩
          · exact absurd h' id
        · exact absurd h' id
      · exact absurd h' id
  · exact absurd h id
end
theorem mth_nox {m : M} {x : D} {xs : List D} {g : G} {c : Str} {fs : Fs} {g' : G} : mthD m x xs g ≠ .ex c fs g' := fun e => by
  unfold mthD at e
  split at e
  · rename_i y
    cases m with
    | append =>
      have e' : dApp x y g = .ex c fs g' := e
      unfold dApp at e'
      split at e'
      · split at e' <;> cases e'
      · cases e'
    | extend =>
      have e' : dExt x y g = .ex c fs g' := e
      unfold dExt at e'
      split at e'
      · split at e' <;> cases e'
      · cases e'
    | pop =>
      cases y with
      | int i =>
        have e' : dPop x i g = .ex c fs g' := e
        unfold dPop at e'
        split at e'
        · split at e'
          · split at e'
            · split at e' <;> cases e'
            · cases e'
          · cases e'
        · cases e'
      | _ => cases e
    | index =>
      have e' : dInx x y g = .ex c fs g' := e
      unfold dInx at e'
      split at e'
      · split at e'
        · split at e'
          · revert e'; unfold ofI; split <;> exact fun z => nomatch z
          · cases e'
        · cases e'
      · cases e'
  · cases e
/-- what a method may be asked of, in the text -/
def rcvB : E → Bool
  | .var _ _ _ => true
  | .idx _ _ _ => true
  | _ => false
theorem base_py {o : E} (h : rcvB o = true) (nm : Str) (env : Env) (w : Sem Value) : attributeBase o.py nm env w = w := by
  cases o <;> first | rfl | exact absurd (show false = true from h) Bool.false_ne_true
theorem nostar_pys : ∀ (es : Es) (env : Env) (pos : Pos), (backTo pos (starEach es.pys env)).all (fun x => !x.1) = true
  | .nil, _, _ => rfl
  | .cons e r, env, pos => by
    show (backTo pos (starEach (e.py :: r.pys) env)).all (fun x => !x.1) = true
    rw [star_py]
    show (!false && (backTo pos (starEach r.pys env)).all (fun x => !x.1)) = true
    rw [nostar_pys r env pos]
    rfl
theorem len_pys : ∀ es : Es, es.pys.length = es.len
  | .nil => rfl
  | .cons e r => congrArg (· + 1) (len_pys r)
section
variable {X : Cx} {cA : Str → Addr} {W : WX} {cl : Nat → List D → G → R D} {tab : Nat → Option FnI} {lm : Lm} {k : Nat}
theorem few_pys {es : Es} {pos : Pos} {env : Env} (h : es.len < 20) : ((backTo pos (starEach es.pys env)).all (fun x => !x.1) && (backToKw pos (keywordEach [] env)).all (fun x => x.1.isSome)
      && decide (es.pys.length + ([] : List Keyword).length + (if ([] : List Keyword).isEmpty then 0 else 1) < 30)) = true := by
  rw [nostar_pys, len_pys]
  have e : decide (es.len + ([] : List Keyword).length + (if ([] : List Keyword).isEmpty then 0 else 1) < 30) = true := decide_eq_true (by show es.len + 0 + 0 < 30; omega)
  rw [e]
  rfl
theorem s_mth (C : EnvOk X cA W cl tab lm k) {m : M} {o e : E} {es : Es} {pa p : Pos} (hr : rcvB o = true) (hl : (pa.endLine == p.line) = true) (hf : (Es.cons e es).len < 20) (ho : PE X o.py (tI X.K cA W (ev cl o))) (h : PA X (e.py :: es.pys) (tA X.K cA W (evs cl (.cons e es)))) :
    PE X (E.mth m o pa (.cons e es) p).py (tI X.K cA W (ev cl (.mth m o pa (.cons e es) p))) := by
  have conv : ∀ σ H Q, tI X.K cA W (ev cl (.mth m o pa (.cons e es) p)) σ H Q → tBM X.K "list" (rM X.K m) (tI X.K cA W (ev cl o)) (tA X.K cA W (evs cl (.cons e es))) σ H Q := fun σ H Q q => by
    refine tI_bind (f := fun x δ g1 => if isLst x g1 then (evs cl (.cons e es) δ g1).bind fun xs g2 => mthD m x xs g2 else .bad) q fun A g δ x v H1 r l rx q1 => ?_
    split at q1
    · rename_i hi
      refine ⟨isLst_ok r rx hi, ?_⟩
      rw [R.sat_bind] at q1
      refine ⟨A, g, δ, r, l, R.sat_mono q1 (fun xs g2 q2 A2 H2 vs n2 r2' rvs => ?_) fun _ _ _ e => e⟩
      refine ⟨A2, g2, x, xs, r2', rx.nx n2, rvs, ?_⟩
      cases e : mthD m x xs g2 with
      | bad => rw [e] at q2; exact absurd q2 id
      | ex c fs g' => exact absurd e mth_nox
      | ok d g3 => rw [e] at q2; exact GoD.nx n2 q2
    · exact absurd q1 id
  cases m with
  | append => exact ⟨fun pins s σ H Q I q => (pe_bm PySem.F.plainAttrs_list PySem.F.slot_list_append PySem.F.type_list_append (mth_ok C.u .append) ho h (base_py hr _ _ _) (few_pys (es := .cons e es) hf) hl (star_py e es.pys X.env) (plain_pys es X.env p)).run pins s σ H Q I (conv σ H Q q)⟩
  | extend => exact ⟨fun pins s σ H Q I q => (pe_bm PySem.F.plainAttrs_list PySem.F.slot_list_extend PySem.F.type_list_extend (mth_ok C.u .extend) ho h (base_py hr _ _ _) (few_pys (es := .cons e es) hf) hl (star_py e es.pys X.env) (plain_pys es X.env p)).run pins s σ H Q I (conv σ H Q q)⟩
  | pop => exact ⟨fun pins s σ H Q I q => (pe_bm PySem.F.plainAttrs_list PySem.F.slot_list_pop PySem.F.type_list_pop (mth_ok C.u .pop) ho h (base_py hr _ _ _) (few_pys (es := .cons e es) hf) hl (star_py e es.pys X.env) (plain_pys es X.env p)).run pins s σ H Q I (conv σ H Q q)⟩
  | index => exact ⟨fun pins s σ H Q I q => (pe_bm PySem.F.plainAttrs_list PySem.F.slot_list_index PySem.F.type_list_index (mth_ok C.u .index) ho h (base_py hr _ _ _) (few_pys (es := .cons e es) hf) hl (star_py e es.pys X.env) (plain_pys es X.env p)).run pins s σ H Q I (conv σ H Q q)⟩
/-! ### calls of defs -/
theorem evs_len : ∀ (es : Es) (δ : Sl) (g : G) (ds : List D) (g' : G), evs cl es δ g = .ok ds g' → ds.length = es.len
  | .nil, _, _, _, _, e => by cases e; rfl
  | .cons e r, δ, g, ds, g', h => by
    have h' : ((ev cl e δ g).bind fun x g1 => (evs cl r δ g1).bind fun xs g2 => .ok (x :: xs) g2) = .ok ds g' := h
    cases q : ev cl e δ g with
    | bad => rw [q] at h'; cases h'
    | ex c fs g1 => rw [q] at h'; cases h'
    | ok x g1 =>
      rw [q] at h'
      have h2 : ((evs cl r δ g1).bind fun xs g2 => .ok (x :: xs) g2) = .ok ds g' := h'
      cases q2 : evs cl r δ g1 with
      | bad => rw [q2] at h2; cases h2
      | ex c fs g2 => rw [q2] at h2; cases h2
      | ok xs g2 =>
        rw [q2] at h2
        cases h2
        exact congrArg (· + 1) (evs_len r δ g1 xs _ q2)
theorem s_call (C : EnvOk X cA W cl tab lm k) {f : Nat} {F : FnI} {px p : Pos} {es : Es} (hF : tab f = some F) (hg : gloB X.env.scope F.x = true) (hl : es.len = F.ps.length) (h : PA X es.pys (tA X.K cA W (evs cl es))) :
    PE X (E.call f F.x px es p).py (tI X.K cA W (ev cl (.call f F.x px es p))) := by
  obtain ⟨hm, hk, hb, hf⟩ := C.fns f F hF
  have conv : ∀ σ H Q, tI X.K cA W (ev cl (.call f F.x px es p)) σ H Q → tA X.K cA W (evs cl es) σ H fun vs H1 => spI X.K cA cl F.ps.length f vs H1 Q (WE W σ) := fun σ H Q q => by
    have q0 : tI X.K cA W (fun δ g => (evs cl es δ g).bind fun xs g1 => cl f xs g1) σ H Q := q
    obtain ⟨A, g, δ, r, l, q1⟩ := q0
    rw [R.sat_bind] at q1
    refine ⟨A, g, δ, r, l, ?_⟩
    cases eo : evs cl es δ g with
    | bad => rw [eo] at q1; exact q1
    | ex c fs g' => rw [eo] at q1; exact q1
    | ok xs g1 =>
      rw [eo] at q1
      have hlen := evs_len es δ g xs g1 eo
      intro A1 H1 vs n1 r1 rv
      exact ⟨by rw [← rv.len, hlen, hl], A1, g1, xs, r1, rv, R.sat_mono q1 (fun _ _ => GoD.nx n1) fun c fs g' e => XP.nx (W := W) n1 e⟩
  cases es with
  | nil =>
    refine ⟨fun pins s σ H Q I q => ?_⟩
    have q2 := conv σ H Q q
    obtain ⟨A, g, δ, r, l, q3⟩ := q2
    have q4 := q3 A H [] (Nx.refl _ _) r .nil
    refine wpAny_Call_Name_kw (ld_glob I (gloB_ok hg).1 hm ?_ (gloB_ok hg).2)
    exact PySem.W.callWith_K0 I.kIn hk (run_fnS (us := []) (E := WE W) hf C.room hb (passAt C.takes σ) I .nil q4)
  | cons e es =>
    exact ⟨fun pins s σ H Q I q => (pe_callS (E := WE W) hf C.room (gloB_ok hg).1 hm hk hb (fun σ => passAt C.takes σ) h (gloB_ok hg).2 (star_py e es.pys X.env) (plain_pys es X.env p)).run pins s σ H Q I (conv σ H Q q)⟩
end
end PD
set_option Elab.async false
set_option linter.all false
set_option maxRecDepth 100000
set_option maxHeartbeats 4000000
/-! PD9: targets, what is walked, list comprehensions. -/
namespace PD
open PySem PySem.Spec PyProof.Rows L2
variable [Tb]
/-! ### targets -/
mutual
def gT (K : PySem.W.Frag) : Tg → TG
  | .name i _ _ => gName i
  | .tup ts _ _ => fun v σ H Q => gTup K ts.length (gTs K ts) v σ H Q ∨ gUnl K ts.length (gTs K ts) v σ H Q
def gTs (K : PySem.W.Frag) : List Tg → TGs
  | [] => gNil
  | t :: ts => gCons (gT K t) (gTs K ts)
end
mutual
def Tg.ok (N : List Str) (sc : Scope) : Tg → Bool
  | .name i x _ => decide (N[i]? = some x) && locB sc x
  | .tup ts _ _ => Tg.oks N sc ts
def Tg.oks (N : List Str) (sc : Scope) : List Tg → Bool
  | [] => true
  | t :: ts => Tg.ok N sc t && Tg.oks N sc ts
end
mutual
/-- the slots that are set -/
def Tg.sl : Tg → List Nat
  | .name i _ _ => [i]
  | .tup ts _ _ => Tg.sls ts
def Tg.sls : List Tg → List Nat
  | [] => []
  | t :: ts => Tg.sl t ++ Tg.sls ts
end
theorem nstar_tg (t : Tg) (ts : List PySem.Expr) (env : Env) : assignEach (t.py :: ts) env = (false, assign t.py env) :: assignEach ts env := by cases t <;> rfl
theorem tgs_len : ∀ (ts : List Tg) (env : Env), (assignEach (Tg.pys ts) env).length = ts.length
  | [], _ => rfl
  | t :: ts, env => by
    show (assignEach (t.py :: Tg.pys ts) env).length = _
    rw [nstar_tg]
    exact congrArg (· + 1) (tgs_len ts env)
theorem tgs_star : ∀ (ts : List Tg) (env : Env), (assignEach (Tg.pys ts) env).findIdx? (·.1) = none
  | [], _ => rfl
  | t :: ts, env => by
    show (assignEach (t.py :: Tg.pys ts) env).findIdx? (·.1) = none
    rw [nstar_tg, List.findIdx?_cons]
    simp [tgs_star ts env]
section
variable {X : Cx}
/-- a slot may be stored: all of a def's cells are its own, or it is a local -/
def fnB (X : Cx) (x : Str) : Prop := X.fn x = true ∨ X.env.scope.names.lookup x = some .local
mutual
def Tg.fnOk (X : Cx) : Tg → Prop
  | .name _ x _ => fnB X x
  | .tup ts _ _ => Tg.fnOks X ts
def Tg.fnOks (X : Cx) : List Tg → Prop
  | [] => True
  | t :: ts => Tg.fnOk X t ∧ Tg.fnOks X ts
end
mutual
theorem s_tg (hc : X.calm = true) (hN : X.N.Nodup) : ∀ t : Tg, t.ok X.N X.env.scope = true → t.fnOk X → PG X t.py (gT X.K t)
  | .name i x p, h, hf => by
    have h' : (decide (X.N[i]? = some x) && locB X.env.scope x) = true := h
    rw [Bool.and_eq_true, decide_eq_true_iff] at h'
    exact pg_name hN h'.1 (locB_ok h'.2) hf
  | .tup ts k p, h, hf => ⟨fun pins s σ H v u Q I r q => q.elim ((pg_tup hc (s_tgs hc hN ts h hf) (tgs_len ts X.env) (tgs_star ts X.env)).run pins s σ H v u Q I r) ((pg_unl hc (s_tgs hc hN ts h hf) (tgs_len ts X.env) (tgs_star ts X.env)).run pins s σ H v u Q I r)⟩
theorem s_tgs (hc : X.calm = true) (hN : X.N.Nodup) : ∀ ts : List Tg, Tg.oks X.N X.env.scope ts = true → Tg.fnOks X ts → PGs X (Tg.pys ts) (gTs X.K ts)
  | [], _, _ => pgs_nil
  | t :: ts, h, hf => by
    have h' : (Tg.ok X.N X.env.scope t && Tg.oks X.N X.env.scope ts) = true := h
    rw [Bool.and_eq_true] at h'
    refine pgs_cons (s_tg hc hN t h'.1 hf.1) (s_tgs hc hN ts h'.2 hf.2) ?_
    show (assignEach (t.py :: Tg.pys ts) X.env).map (·.2) = _
    rw [nstar_tg]
    rfl
end
end
/-- the slots at vs may differ -/
def SameBut (vs : List Nat) (σ σ' : L2.St) : Prop := σ'.length = σ.length ∧ ∀ i, i ∉ vs → σ'[i]? = σ[i]?
theorem SameBut.refl (vs : List Nat) (σ : L2.St) : SameBut vs σ σ := ⟨rfl, fun _ _ => rfl⟩
theorem SameBut.trans {vs : List Nat} {a b c : L2.St} (h : SameBut vs a b) (h' : SameBut vs b c) : SameBut vs a c := ⟨h'.1.trans h.1, fun i hi => (h'.2 i hi).trans (h.2 i hi)⟩
theorem SameBut.mono {vs us : List Nat} {a b : L2.St} (h : SameBut vs a b) (hs : ∀ i ∈ vs, i ∈ us) : SameBut us a b := ⟨h.1, fun i hi => h.2 i fun z => hi (hs i z)⟩
theorem SameBut.set {i : Nat} {σ : L2.St} {o : Option V} : SameBut [i] σ (σ.set i o) := ⟨by simp, fun j hj => by rw [List.getElem?_set_ne (fun e => hj (by simp [e]))]⟩
theorem wipe_get {σ : L2.St} {i : Nat} : ∀ {vs : List Nat}, (wipe σ vs)[i]? = if i ∈ vs then (if i < σ.length then some none else none) else σ[i]?
  | [] => by simp [wipe]
  | v :: vs => by
    unfold wipe
    by_cases h : i = v
    · subst h
      rw [if_pos List.mem_cons_self, List.getElem?_set_self', wipe_get]
      by_cases hl : i < σ.length
      · by_cases hm : i ∈ vs
        · rw [if_pos hm]; simp [hl]
        · rw [if_neg hm]; simp [hl]
      · by_cases hm : i ∈ vs
        · rw [if_pos hm]; simp [hl]
        · rw [if_neg hm]; simp [hl, List.getElem?_eq_none (Nat.not_lt.mp hl)]
    · rw [List.getElem?_set_ne (Ne.symm h), wipe_get]
      by_cases hm : i ∈ vs
      · rw [if_pos hm, if_pos (List.mem_cons_of_mem _ hm)]
      · rw [if_neg hm, if_neg (by simp [h, hm])]
theorem wipe_same {vs : List Nat} {σ σ' : L2.St} (h : SameBut vs σ σ') : wipe σ' vs = wipe σ vs := by
  apply List.ext_getElem?
  intro i
  rw [wipe_get, wipe_get, h.1]
  by_cases hm : i ∈ vs
  · rw [if_pos hm, if_pos hm]
  · rw [if_neg hm, if_neg hm, h.2 i hm]
theorem wipe_but (vs : List Nat) (σ : L2.St) : SameBut vs σ (wipe σ vs) := ⟨wipe_length σ vs, fun i hi => by rw [wipe_get, if_neg hi]⟩
theorem wipe_wipe (vs : List Nat) (σ : L2.St) : wipe (wipe σ vs) vs = wipe σ vs := wipe_same (wipe_but vs σ)
section
variable {K : PySem.W.Frag} {A : List Addr} {H : Hp}
theorem wipe_rp : ∀ {δ : Sl} {σ : L2.St} (vs : List Nat), LcR K A H δ σ → LcR K A H (wipeD δ vs) (wipe σ vs)
  | _, _, [], h => h
  | _, _, v :: vs, h => (wipe_rp vs h).unset none
mutual
/-- what a target does -/
theorem put_ok {g : G} (r : Rel K A g H) : ∀ (t : Tg) {d : D} {v : V} {δ δ' : Sl} {σ : L2.St}, Rp K A H d v → LcR K A H δ σ → t.put g d δ = some δ' → ∃ σ', SameBut t.sl σ σ' ∧ LcR K A H δ' σ' ∧ ∀ Q : L2.St → Hp → Prop, Q σ' H → gT K t v σ H Q
  | .name i x p, d, v, δ, δ', σ, hd, hl, e => by
    have e' : some (δ.set i (some d)) = some δ' := e
    have e2 := Option.some.inj e'
    subst e2
    exact ⟨σ.set i (some v), SameBut.set, hl.set hd, fun Q q => q⟩
  | .tup ts k p, d, v, δ, δ', σ, hd, hl, e => by
    have e' : (match seqD d g with
      | some ds => Tg.puts ts g ds δ
      | none => none) = some δ' := e
    split at e'
    · rename_i ds es
      obtain ⟨a, vs, rfl, hq, hr⟩ := seqD_ok r hd es
      obtain ⟨σ', h1, h2, h3, h4⟩ := puts_ok r ts hr hl e'
      refine ⟨σ', h1, h2, fun Q q => ?_⟩
      rcases hq with hq | hq
      · exact .inr ⟨a, vs, rfl, hq, by rw [← hr.len]; exact h4, h3 Q q⟩
      · exact .inl ⟨a, vs, rfl, hq, by rw [← hr.len]; exact h4, h3 Q q⟩
    · cases e'
theorem puts_ok {g : G} (r : Rel K A g H) : ∀ (ts : List Tg) {ds : List D} {vs : List V} {δ δ' : Sl} {σ : L2.St}, RpL K A H ds vs → LcR K A H δ σ → Tg.puts ts g ds δ = some δ' → ∃ σ', SameBut (Tg.sls ts) σ σ' ∧ LcR K A H δ' σ' ∧ (∀ Q : L2.St → Hp → Prop, Q σ' H → gTs K ts vs σ H Q) ∧ ds.length = ts.length
  | [], _, _, δ, δ', σ, .nil, hl, e => by
    have e' : some δ = some δ' := e
    have e2 := Option.some.inj e'
    subst e2
    exact ⟨σ, SameBut.refl _ _, hl, fun Q q => ⟨rfl, q⟩, rfl⟩
  | [], _, _, δ, δ', σ, .cons _ _, hl, e => by cases e
  | t :: ts, _, _, δ, δ', σ, .nil, hl, e => by cases e
  | t :: ts, _, _, δ, δ', σ, .cons (d := d) (v := v) (ds := ds) (vs := vs) hd hr, hl, e => by
    have e' : (match Tg.put t g d δ with
      | some δ' => Tg.puts ts g ds δ'
      | none => none) = some δ' := e
    split at e'
    · rename_i δ1 e1
      obtain ⟨σ1, a1, a2, a3⟩ := put_ok r t hd hl e1
      obtain ⟨σ2, b1, b2, b3, b4⟩ := puts_ok r ts hr a2 e'
      refine ⟨σ2, (a1.mono fun i hi => List.mem_append_left _ hi).trans (b1.mono fun i hi => List.mem_append_right _ hi), b2, fun Q q => ⟨v, vs, rfl, a3 _ (b3 Q q)⟩, congrArg (· + 1) b4⟩
    · cases e'
end
end
/-! ### what is walked -/
/-- the machine's walk yields what w says -/
def JOk (K : PySem.W.Frag) (A0 : List Addr) (H0 : Hp) (J : L2.It) (w : Wk) : Prop := ∀ A g H i, Nx A0 H0 A H → Rel K A g H →
  (w i g = some none → J.stop i H) ∧ ∀ d, w i g = some (some d) → J.go i H ∧ ∀ x H', J.yld i H x H' → ∃ A', Nx A H A' H' ∧ Rel K A' g H' ∧ Rp K A' H' d x
def tW (K : PySem.W.Frag) (cA : Str → Addr) (W : WX) (m : Sl → G → R Wk) : TI := fun σ H R' => ∃ A g δ, Rel K A g H ∧ LcR K A H δ σ ∧ (m δ g).sat (fun w g' => ∀ A' H' J, Nx A H A' H' → Rel K A' g' H' → JOk K A' H' J w → R' J H') (XP K cA W A H σ)
section
variable {K : PySem.W.Frag} {A : List Addr} {H : Hp} {g : G}
theorem lst_at (r : Rel K A g H) {x : D} {a : Addr} (hx : Rp K A H x (.ref a)) {ds : List D} (e : lstD x g = some ds) : ∃ vs, SqL K H a vs ∧ RpL K A H ds vs := by
  obtain ⟨a', vs, e1, h1, h2⟩ := lstD_ok r hx e
  cases e1
  exact ⟨vs, h1, h2⟩
theorem j_list {x : D} {a : Addr} (hx : Rp K A H x (.ref a)) (hn : ∀ ds, x ≠ .tup ds) : JOk K A H (Itl K a) (wkSeq x) := fun A1 g1 H1 i n r => by
  have hx1 := hx.nx n
  have es : ∀ g, seqD x g = lstD x g := fun g => by cases x <;> first | rfl | exact absurd rfl (hn _)
  unfold wkSeq
  rw [es]
  cases e : lstD x g1 with
  | none => exact ⟨fun z => (by cases z), fun d z => (by cases z)⟩
  | some ds =>
    obtain ⟨vs, h1, h2⟩ := lst_at r hx1 e
    refine ⟨fun z => ⟨vs, h1, ?_⟩, fun d z => ?_⟩
    · have z' : ds[i]? = none := Option.some.inj z
      rw [← h2.len]; exact List.getElem?_eq_none_iff.mp z'
    · have z' : ds[i]? = some d := Option.some.inj z
      obtain ⟨v, e1, e2⟩ := h2.get z'
      refine ⟨⟨vs, v, h1, e1⟩, fun x' H' ⟨eH, hy⟩ => ?_⟩
      subst eH
      have := hy vs h1
      rw [e1] at this
      cases this
      exact ⟨A1, Nx.refl _ _, r, e2⟩
theorem j_tup {ds : List D} {a : Addr} {vs : List V} (hq : SqU K H a vs) (hr : RpL K A H ds vs) : JOk K A H (Itt K a) (wkSeq (.tup ds)) := fun A1 g1 H1 i n r => by
  have hq1 := (hq.nx n).sq
  have hr1 := RpL.nx n hr
  refine ⟨fun z => ⟨vs, hq1, ?_⟩, fun d z => ?_⟩
  · have z' : ds[i]? = none := Option.some.inj z
    rw [← hr1.len]; exact List.getElem?_eq_none_iff.mp z'
  · have z' : ds[i]? = some d := Option.some.inj z
    obtain ⟨v, e1, e2⟩ := hr1.get z'
    refine ⟨⟨vs, v, hq1, e1⟩, fun x' H' ⟨eH, hy⟩ => ?_⟩
    subst eH
    have := hy vs hq1
    rw [e1] at this
    cases this
    exact ⟨A1, Nx.refl _ _, r, e2⟩
theorem j_rng (lo : Int) (n : Nat) : JOk K A H (Itr lo n) (wkRng lo n) := fun A1 g1 H1 i _ r => by
  unfold wkRng
  refine ⟨fun z => ?_, fun d z => ?_⟩
  · have z' : (if i < n then some (D.int (lo + i)) else none) = none := Option.some.inj z
    split at z'
    · cases z'
    · rename_i h; exact Nat.not_lt.mp h
  · have z' : (if i < n then some (D.int (lo + i)) else none) = some d := Option.some.inj z
    split at z'
    · rename_i h
      cases z'
      refine ⟨h, fun x H' ⟨eH, ex⟩ => ?_⟩
      subst eH ex
      exact ⟨A1, Nx.refl _ _, r, .int _⟩
    · cases z'
/-- a tuple that the walk makes -/
theorem made_tup (r : Rel K A g H) {T : Addr} (hT : H T = none) {ds : List D} {vs : List V} (h : RpL K A H ds vs) : ∃ A', Nx A H A' (upd H T (.tup vs)) ∧ Rel K A' g (upd H T (.tup vs)) ∧ Rp K A' (upd H T (.tup vs)) (.tup ds) (.ref T) := by
  obtain ⟨r1, x1⟩ := r.fr hT (.tup vs)
  exact ⟨A, x1, r1, .tup (.inl upd_same) (RpL.nx x1 h)⟩
theorem j_zip {x y : D} {a b : Addr} (hx : Rp K A H x (.ref a)) (hy : Rp K A H y (.ref b)) (hn : (∀ ds, x ≠ .tup ds) ∨ ∀ ds, y ≠ .tup ds) : JOk K A H (Itz K a b) (wkZip x y) := fun A1 g1 H1 i n r => by
  have hx1 := hx.nx n
  have hy1 := hy.nx n
  unfold wkZip
  have ez : zipD x y g1 = (match lstD x g1, lstD y g1 with
    | some xs, some ys => some (xs, ys)
    | _, _ => none) := by
    rcases hn with h | h
    · cases x <;> first | rfl | exact absurd rfl (h _)
    · cases x <;> first | rfl | (cases y <;> first | rfl | exact absurd rfl (h _))
  rw [ez]
  cases e1 : lstD x g1 with
  | none => exact ⟨fun z => (by cases z), fun d z => (by cases z)⟩
  | some xs =>
    cases e2 : lstD y g1 with
    | none => exact ⟨fun z => (by cases z), fun d z => (by cases z)⟩
    | some ys =>
      obtain ⟨vs, h1, h2⟩ := lst_at r hx1 e1
      obtain ⟨ws, h3, h4⟩ := lst_at r hy1 e2
      refine ⟨fun z => ?_, fun d z => ?_⟩
      · have z' : zipAt i (xs, ys) = none := Option.some.inj z
        unfold zipAt at z'
        refine ⟨vs, ws, h1, h3, ?_⟩
        split at z'
        · cases z'
        · rename_i hno
          by_cases hl : i < xs.length
          · by_cases hl2 : i < ys.length
            · exact absurd (List.getElem?_eq_getElem hl2) (hno _ _ (List.getElem?_eq_getElem hl))
            · right; rw [← h4.len]; exact Nat.not_lt.mp hl2
          · left; rw [← h2.len]; exact Nat.not_lt.mp hl
      · have z' : zipAt i (xs, ys) = some d := Option.some.inj z
        unfold zipAt at z'
        split at z'
        · rename_i p q ep eq
          cases z'
          obtain ⟨v, e3, e4⟩ := h2.get ep
          obtain ⟨u, e5, e6⟩ := h4.get eq
          refine ⟨⟨vs, ws, v, u, h1, h3, e3, e5⟩, fun x' H' ⟨T, x2, y2, ex, hT, eH, hxs, hys⟩ => ?_⟩
          subst ex eH
          have k1 := hxs vs h1
          rw [e3] at k1; cases k1
          have k2 := hys ws h3
          rw [e5] at k2; cases k2
          exact made_tup r hT (.cons e4 (.cons e6 .nil))
        · cases z'
theorem j_zipT {xs ys : List D} {a b : Addr} {vs ws : List V} (h1 : SqU K H a vs) (h2 : RpL K A H xs vs) (h3 : SqU K H b ws) (h4 : RpL K A H ys ws) : JOk K A H (RZ.ItzT K a b) (wkZip (.tup xs) (.tup ys)) := fun A1 g1 H1 i n r => by
  have h1 := (h1.nx n).sq
  have h3 := (h3.nx n).sq
  have h2 := RpL.nx n h2
  have h4 := RpL.nx n h4
  refine ⟨fun z => ?_, fun d z => ?_⟩
  · have z' : zipAt i (xs, ys) = none := Option.some.inj z
    unfold zipAt at z'
    refine ⟨vs, ws, h1, h3, ?_⟩
    split at z'
    · cases z'
    · rename_i hno
      by_cases hl : i < xs.length
      · by_cases hl2 : i < ys.length
        · exact absurd (List.getElem?_eq_getElem hl2) (hno _ _ (List.getElem?_eq_getElem hl))
        · right; rw [← h4.len]; exact Nat.not_lt.mp hl2
      · left; rw [← h2.len]; exact Nat.not_lt.mp hl
  · have z' : zipAt i (xs, ys) = some d := Option.some.inj z
    unfold zipAt at z'
    split at z'
    · rename_i p q ep eq
      cases z'
      obtain ⟨v, e3, e4⟩ := h2.get ep
      obtain ⟨u, e5, e6⟩ := h4.get eq
      refine ⟨⟨vs, ws, v, u, h1, h3, e3, e5⟩, fun x' H' ⟨T, x2, y2, ex, hT, eH, hxs, hys⟩ => ?_⟩
      subst ex eH
      have k1 := hxs vs h1
      rw [e3] at k1; cases k1
      have k2 := hys ws h3
      rw [e5] at k2; cases k2
      exact made_tup r hT (.cons e4 (.cons e6 .nil))
    · cases z'
theorem j_enm {x : D} {a : Addr} (hx : Rp K A H x (.ref a)) : JOk K A H (Ite K a) (wkEnm x) := fun A1 g1 H1 i n r => by
  have hx1 := hx.nx n
  unfold wkEnm
  cases e : lstD x g1 with
  | none => exact ⟨fun z => (by cases z), fun d z => (by cases z)⟩
  | some ds =>
    obtain ⟨vs, h1, h2⟩ := lst_at r hx1 e
    refine ⟨fun z => ⟨vs, h1, ?_⟩, fun d z => ?_⟩
    · have z' : (ds[i]?.map fun d => D.tup [.int i, d]) = none := Option.some.inj z
      have z2 : ds[i]? = none := by
        cases q : ds[i]? with
        | none => rfl
        | some d => rw [q] at z'; cases z'
      rw [← h2.len]; exact List.getElem?_eq_none_iff.mp z2
    · have z' : (ds[i]?.map fun d => D.tup [.int i, d]) = some d := Option.some.inj z
      cases q : ds[i]? with
      | none => rw [q] at z'; cases z'
      | some d0 =>
        rw [q] at z'
        have e3 : D.tup [.int i, d0] = d := Option.some.inj z'
        subst e3
        obtain ⟨v, e1, e2⟩ := h2.get q
        refine ⟨⟨vs, v, h1, e1⟩, fun x' H' ⟨T, x2, ex, hT, eH, hxs⟩ => ?_⟩
        subst ex eH
        have k1 := hxs vs h1
        rw [e1] at k1; cases k1
        exact made_tup r hT (.cons (.int _) (.cons e2 .nil))
end
end PD
set_option Elab.async false
set_option linter.all false
set_option maxRecDepth 100000
set_option maxHeartbeats 4000000
/-! PD10: iterables, comprehensions. -/
namespace PD
open PySem PySem.Spec PyProof.Rows L2
variable [Tb]
section
variable {X : Cx} {cA : Str → Addr} {W : WX} {cl : Nat → List D → G → R D} {tab : Nat → Option FnI} {lm : Lm} {k : Nat}
/-- a list, a tuple, a dict's keys walked: the dict is frozen first -/
def iAny (K : PySem.W.Frag) (tl : TE) : TI := fun σ H R => tl σ H fun x H1 => ∃ a, x = .ref a ∧ (((∃ xs, SqL K H1 a xs) ∧ R (Itl K a) H1) ∨ ((∃ xs, SqT K H1 a xs) ∧ R (Itt K a) H1) ∨
  (∃ o ws, H1 a = some (.frz o (.dK ws)) ∧ R (Itk a o ws) H1) ∨ ∃ ws, H1 a = some (.dK ws) ∧ ∀ o, R (Itk a o ws) (upd H1 a (.frz o (.dK ws))))
theorem keys_it {pins : List (Addr × Obj)} {σ : L2.St} {H : Hp} {s : Shared} {tg : PySem.Expr} {R : L2.It → Hp → Prop} {a : Addr} {o : Obj} {ws : List (Key × V)} (I : Inv X pins σ H s) (h : H a = some (.frz o (.dK ws))) (q : R (Itk a o ws) H) :
    wpAny (model X.prog X.w) X.A (pyIter (.ref a)) (PIE X pins σ tg R) X.xe s := by
  obtain ⟨ns, ga, ex, es, ep, vs, dat, len, kv, _⟩ := I.frzK h
  have it := turn_keys (P := X.prog) (w := X.w) (K := X.K) (tg := tg) (kvs := ws) (d := a) (o := o) s.heap.objs.size dat
  exact iter_keys ns ga ex dat (pi_one (tk := s.toks) I _ it ⟨_, Heap.get?_push_size _ rfl, rfl, by rw [len]; rfl⟩ q)
theorem pi_any {tg l : PySem.Expr} {tl : TE} (hl : PE X l tl) : PI X tg l (iAny X.K tl) := by
  refine ⟨fun pins s σ H R I h => ?_⟩
  refine thn (hl.run pins s σ H _ I h) fun v s1 ⟨x, H1, I1, r1, q1⟩ => ?_
  obtain ⟨a, e, q⟩ := q1
  subst e
  cases r1
  have new : ∀ b ∈ [s1.heap.objs.size], FpOk X pins H1 b := fun b hb => by
    rw [List.mem_singleton.mp hb]
    exact I1.fpOk (Nat.le_refl _) (I1.hok.fresh (Nat.le_refl _))
  rcases q with ⟨⟨xs, hq⟩, q⟩ | ⟨⟨xs, hq⟩, q⟩ | ⟨o, ws, hd, q⟩ | ⟨ws, hd, q⟩
  · obtain ⟨its, rv, p, hz⟩ := I1.list hq
    exact wpAny_pyIter_list p.isList ⟨s1.heap.objs.size, [s1.heap.objs.size], _, _, H1, rfl, I1.kept (t' := s1.toks) fun b o e => Heap.get?_push_of_some _ e, turn_list a _, ⟨_, Heap.get?_push_size _ rfl, rfl, rfl⟩, new, q⟩
  · obtain ⟨its, rv, p, hz⟩ := I1.tuple hq
    exact wpAny_pyIter_tuple (show s1.heap.IsTuple a its.toArray from p) ⟨s1.heap.objs.size, [s1.heap.objs.size], _, _, H1, rfl, I1.kept (t' := s1.toks) fun b o e => Heap.get?_push_of_some _ e, turn_tuple a _, ⟨_, Heap.get?_push_size _ rfl, rfl, rfl⟩, new, q⟩
  · exact keys_it I1 hd q
  · obtain ⟨o, I2⟩ := I1.lock hd trivial
    exact keys_it I2 upd_same (q o)
theorem j_key {K : PySem.W.Frag} {A : List Addr} {H : Hp} {n : Nat} {a : Addr} {o : Obj} {ws : List (Key × V)} (ha : A[n]? = some a) (hd : H a = some (.frz o (.dK ws))) : JOk K A H (Itk a o ws) (wkKey n) := fun A1 g1 H1 i nx r => by
  have ha1 := nx.at ha
  have hd1 := nx.keep _ _ (show Stb (.frz o (.dK ws)) from trivial) hd
  unfold wkKey
  cases e : g1[n]? with
  | none => exact ⟨(fun z => nomatch z), fun d z => nomatch z⟩
  | some ob =>
    cases ob with
    | lst ds => exact ⟨(fun z => nomatch z), fun d z => nomatch z⟩
    | dic kvs => exact ⟨(fun z => nomatch z), fun d z => nomatch z⟩
    | fdic kvs =>
      obtain ⟨o2, ws2, h2, hr⟩ := r.obj _ _ _ e ha1
      have e2 : o2 = o ∧ ws2 = ws := by rw [hd1] at h2; cases h2; exact ⟨rfl, rfl⟩
      obtain ⟨e3, e4⟩ := e2
      subst e3 e4
      refine ⟨fun z => ⟨hd1, ?_⟩, fun d z => ?_⟩
      · have z' : (kvs[i]?.map fun p => keyV p.1) = none := Option.some.inj z
        have z2 : kvs[i]? = none := by simpa using z'
        rw [← Paired.length hr]
        exact List.getElem?_eq_none_iff.mp z2
      · have z' : (kvs[i]?.map fun p => keyV p.1) = some d := Option.some.inj z
        have hlt : i < kvs.length := by
          cases q : kvs[i]? with
          | none => rw [q] at z'; cases z'
          | some p => exact (List.getElem?_eq_some_iff.mp q).1
        refine ⟨⟨hd1, by rw [← Paired.length hr]; exact hlt⟩, fun x' H' ⟨eH, k, v, hk, ex⟩ => ?_⟩
        subst eH ex
        refine ⟨A1, Nx.refl _ _, r, ?_⟩
        have kr := keys_rp hr
        have kd : (kvs.map fun p => keyV p.1)[i]? = some d := by rw [List.getElem?_map]; exact z'
        obtain ⟨v', h1, h2'⟩ := kr.get kd
        rw [List.getElem?_map, hk] at h1
        cases h1
        exact h2'
theorem seq_walk {K : PySem.W.Frag} {A : List Addr} {H : Hp} {g : G} (r : Rel K A g H) {x : D} {v : V} (hx : Rp K A H x v) {R' : L2.It → Hp → Prop}
    (h : ((match seqD x g with
      | some _ => .ok (wkSeq x) g
      | none => keyW x g : R Wk)).sat (fun w g' => ∀ A' H' J, Nx A H A' H' → Rel K A' g' H' → JOk K A' H' J w → R' J H') NoE) :
    ∃ a, v = .ref a ∧ (((∃ xs, SqL K H a xs) ∧ R' (Itl K a) H) ∨ ((∃ xs, SqT K H a xs) ∧ R' (Itt K a) H) ∨ (∃ o ws, H a = some (.frz o (.dK ws)) ∧ R' (Itk a o ws) H) ∨ ∃ ws, H a = some (.dK ws) ∧ ∀ o, R' (Itk a o ws) (upd H a (.frz o (.dK ws)))) := by
  split at h
  · rename_i ds e
    have h : ∀ A' H' J, Nx A H A' H' → Rel K A' g H' → JOk K A' H' J (wkSeq x) → R' J H' := h
    have h := fun J => h A H J (Nx.refl _ _) r
    cases hx with
    | @tup a vs ds' hq hr => exact ⟨a, rfl, .inr (.inl ⟨⟨vs, hq.sq⟩, h _ (j_tup hq hr)⟩)⟩
    | @ro a vs ds' hq hr => exact ⟨a, rfl, .inl ⟨⟨vs, hq.sq⟩, h _ (j_list (.ro hq hr) fun _ z => nomatch z)⟩⟩
    | @ref n a ha =>
      obtain ⟨a', vs, e1, h1, h2⟩ := lstD_ok r (.ref ha) (show lstD (.ref n) g = some ds from e)
      cases e1
      exact ⟨a, rfl, .inl ⟨⟨vs, h1⟩, h _ (j_list (.ref ha) fun _ z => nomatch z)⟩⟩
    | _ => cases e
  · unfold keyW at h
    split at h
    · rename_i n _
      cases hx with
      | ref ha =>
        split at h
        · rename_i kvs en
          obtain ⟨ws, h1, h2⟩ := r.obj _ _ _ en ha
          refine ⟨_, rfl, .inr (.inr (.inr ⟨ws, h1, fun o => ?_⟩))⟩
          obtain ⟨r1, n1⟩ := r.freeze o ha en h1 h2
          exact h A _ _ n1 r1 (j_key ha upd_same)
        · rename_i kvs en
          obtain ⟨o, ws, h1, h2⟩ := r.obj _ _ _ en ha
          exact ⟨_, rfl, .inr (.inr (.inl ⟨o, ws, h1, h A H _ (Nx.refl _ _) r (j_key ha h1)⟩))⟩
        · exact absurd h id
    · exact absurd h id
theorem s_seq {tg : PySem.Expr} {e : E} (h : PE X e.py (tI X.K cA W (ev cl e))) : PI X tg (It.seq e).py (tW X.K cA W (evI cl (.seq e))) := by
  refine ⟨fun pins s σ H R' I ⟨A, g, δ, r, l, q⟩ => (pi_any (tg := tg) h).run pins s σ H R' I ?_⟩
  have q' : ((ev cl e δ g).bind fun x g1 => (match seqD x g1 with
      | some _ => .ok (wkSeq x) g1
      | none => keyW x g1)).sat (fun w g' => ∀ A' H' J, Nx A H A' H' → Rel X.K A' g' H' → JOk X.K A' H' J w → R' J H') (XP X.K cA W A H σ) := q
  rw [R.sat_bind] at q'
  refine ⟨A, g, δ, r, l, R.sat_mono q' (fun x g1 q1 A1 H1 v n r1 rv => seq_walk r1 rv ?_) fun _ _ _ e => e⟩
  split at q1
  · rename_i e
    exact fun A' H' J n' r' j => q1 A' H' J (n.trans n') r' j
  · cases ek : keyW x g1 with
    | bad => rw [ek] at q1; exact q1
    | ex c fs g' =>
      exfalso
      unfold keyW at ek
      split at ek
      · split at ek <;> cases ek
      · cases ek
    | ok w g' =>
      rw [ek] at q1
      exact fun A' H' J n' r' j => q1 A' H' J (n.trans n') r' j
theorem inR_ok {i : Int} (h : inR i = true) : -(2 ^ 62) ≤ i ∧ i < 2 ^ 62 := by
  unfold inR at h
  rw [Bool.and_eq_true, decide_eq_true_iff, decide_eq_true_iff] at h
  exact h
theorem rng_glo (C : EnvOk X cA W cl tab lm k) (hg : gloB X.env.scope "range" = true) : Gl X "range" := (gloB_ok hg).1
theorem s_rng1 (C : EnvOk X cA W cl tab lm k) {tg : PySem.Expr} {a : E} {px p : Pos} (hg : gloB X.env.scope "range" = true) (h : PA X [a.py] (tA X.K cA W (evs cl (.cons a .nil)))) : PI X tg (It.rng1 px a p).py (tW X.K cA W (evI cl (.rng1 px a p))) := by
  refine ⟨fun pins s σ H R' I ⟨A, g, δ, r, l, q⟩ => (pi_range1 (tg := tg) (gloB_ok hg).1 C.nor.1 h (star_py a [] X.env)).run pins s σ H R' I ?_⟩
  have q' : ((ev cl a δ g).bind fun x g1 => (asI x g1).bind fun n g2 => if inR n then .ok (wkRng 0 n.toNat) g2 else .bad).sat (fun w g' => ∀ A' H' J, Nx A H A' H' → Rel X.K A' g' H' → JOk X.K A' H' J w → R' J H') (XP X.K cA W A H σ) := q
  rw [R.sat_bind] at q'
  refine ⟨A, g, δ, r, l, ?_⟩
  show ((ev cl a δ g).bind fun x g1 => (evs cl .nil δ g1).bind fun xs g2 => .ok (x :: xs) g2).sat _ _
  rw [R.sat_bind]
  refine R.sat_mono q' (fun x g1 q1 => ?_) fun _ _ _ e => e
  show ∀ A' H' vs, _
  intro A1 H1 vs n r1 rv
  obtain ⟨v, rfl, hx⟩ := rpl1 rv
  cases hx with
  | int i =>
    have q2 : (if inR i then .ok (wkRng 0 i.toNat) g1 else .bad : R Wk).sat (fun w g' => ∀ A' H' J, Nx A H A' H' → Rel X.K A' g' H' → JOk X.K A' H' J w → R' J H') (XP X.K cA W A H σ) := q1
    split at q2
    · rename_i hi
      exact ⟨i, rfl, (inR_ok hi).1, (inR_ok hi).2, q2 A1 H1 _ n r1 (j_rng 0 i.toNat)⟩
    · exact absurd q2 id
  | _ => exact absurd q1 id
theorem s_rng2 (C : EnvOk X cA W cl tab lm k) {tg : PySem.Expr} {a b : E} {px p : Pos} (hg : gloB X.env.scope "range" = true) (h : PA X [a.py, b.py] (tA X.K cA W (evs cl (.cons a (.cons b .nil))))) : PI X tg (It.rng2 px a b p).py (tW X.K cA W (evI cl (.rng2 px a b p))) := by
  refine ⟨fun pins s σ H R' I ⟨A, g, δ, r, l, q⟩ => (pi_range2 (tg := tg) (gloB_ok hg).1 C.nor.1 h (by rw [show ([a.py, b.py] : List PySem.Expr) = a.py :: [b.py] from rfl, star_py, star_py] <;> rfl) (star_py b [] X.env)).run pins s σ H R' I ?_⟩
  have q' : ((ev cl a δ g).bind fun x g1 => (ev cl b δ g1).bind fun y g2 => (asI x g2).bind fun lo g3 => (asI y g3).bind fun hi g4 => if inR lo && inR hi then .ok (wkRng lo (hi - lo).toNat) g4 else .bad).sat (fun w g' => ∀ A' H' J, Nx A H A' H' → Rel X.K A' g' H' → JOk X.K A' H' J w → R' J H') (XP X.K cA W A H σ) := q
  rw [R.sat_bind] at q'
  refine ⟨A, g, δ, r, l, ?_⟩
  show ((ev cl a δ g).bind fun x g1 => (((ev cl b δ g1).bind fun y g2 => (evs cl .nil δ g2).bind fun xs g3 => .ok (y :: xs) g3)).bind fun xs g2 => .ok (x :: xs) g2).sat _ _
  rw [R.sat_bind]
  refine R.sat_mono q' (fun x g1 q1 => ?_) fun _ _ _ e => e
  rw [R.sat_bind] at q1
  rw [R.sat_bind, R.sat_bind]
  refine R.sat_mono q1 (fun y g2 q2 => ?_) fun _ _ _ e => e
  show ∀ A' H' vs, _
  intro A1 H1 vs n r1 rv
  obtain ⟨v, u, rfl, hx, hy⟩ := rpl2 rv
  cases hx with
  | int i =>
    cases hy with
    | int j =>
      have q3 : (if inR i && inR j then .ok (wkRng i (j - i).toNat) g2 else .bad : R Wk).sat (fun w g' => ∀ A' H' J, Nx A H A' H' → Rel X.K A' g' H' → JOk X.K A' H' J w → R' J H') (XP X.K cA W A H σ) := q2
      split at q3
      · rename_i hi
        rw [Bool.and_eq_true] at hi
        exact ⟨i, j, rfl, ⟨(inR_ok hi.1).1, (inR_ok hi.1).2, (inR_ok hi.2).1, (inR_ok hi.2).2⟩, q3 A1 H1 _ n r1 (j_rng i (j - i).toNat)⟩
      · exact absurd q3 id
    | _ => exact absurd q2 id
  | _ => exact absurd q2 id
theorem zip_walk {K : PySem.W.Frag} {A : List Addr} {H : Hp} {g : G} (r : Rel K A g H) {x y : D} {v u : V} (hx : Rp K A H x v) (hy : Rp K A H y u) {z : List D × List D} (e : zipD x y g = some z) {R' : L2.It → Hp → Prop} (h : ∀ J, JOk K A H J (wkZip x y) → R' J H) :
    ∃ a b xs ys, [v, u] = [.ref a, .ref b] ∧ ((SqL K H a xs ∧ SqL K H b ys ∧ R' (Itz K a b) H) ∨ (SqT K H a xs ∧ SqT K H b ys ∧ R' (RZ.ItzT K a b) H)) := by
  have lists : ((∀ ds, x ≠ .tup ds) ∨ ∀ ds, y ≠ .tup ds) → zipD x y g = (match lstD x g, lstD y g with
    | some xs, some ys => some (xs, ys)
    | _, _ => none) → ∃ a b xs ys, [v, u] = [.ref a, .ref b] ∧ ((SqL K H a xs ∧ SqL K H b ys ∧ R' (Itz K a b) H) ∨ (SqT K H a xs ∧ SqT K H b ys ∧ R' (RZ.ItzT K a b) H)) := fun hn ez => by
    rw [ez] at e
    split at e
    · rename_i xs ys e1 e2
      obtain ⟨a, vs, rfl, h1, h2⟩ := lstD_ok r hx e1
      obtain ⟨b, ws, rfl, h3, h4⟩ := lstD_ok r hy e2
      exact ⟨a, b, vs, ws, rfl, .inl ⟨h1, h3, h _ (j_zip hx hy hn)⟩⟩
    · cases e
  cases hx with
  | @tup a vs ds hq hr =>
    cases hy with
    | @tup b ws es hq' hr' => exact ⟨a, b, vs, ws, rfl, .inr ⟨hq.sq, hq'.sq, h _ (j_zipT hq hr hq' hr')⟩⟩
    | _ => exact lists (.inr fun _ z => nomatch z) rfl
  | _ => exact lists (.inl fun _ z => nomatch z) rfl
theorem s_zip (C : EnvOk X cA W cl tab lm k) {elts : List PySem.Expr} {kk : Nat} {tpos : Pos} {a b : E} {px p : Pos} (hg : gloB X.env.scope "zip" = true) (h : PA X [a.py, b.py] (tA X.K cA W (evs cl (.cons a (.cons b .nil))))) : PI X (.Tuple elts kk tpos) (It.zip px a b p).py (tW X.K cA W (evI cl (.zip px a b p))) := by
  refine ⟨fun pins s σ H R' I ⟨A, g, δ, r, l, q⟩ => (RZ.pi_zipA (gloB_ok hg).1 C.nor.2.1 h (star_py a [b.py] X.env) (plain_pys (.cons b .nil) X.env p)).run pins s σ H R' I ?_⟩
  have q' : ((ev cl a δ g).bind fun x g1 => (ev cl b δ g1).bind fun y g2 => (match zipD x y g2 with
    | some _ => .ok (wkZip x y) g2
    | none => .bad)).sat (fun w g' => ∀ A' H' J, Nx A H A' H' → Rel X.K A' g' H' → JOk X.K A' H' J w → R' J H') (XP X.K cA W A H σ) := q
  rw [R.sat_bind] at q'
  refine ⟨A, g, δ, r, l, ?_⟩
  show ((ev cl a δ g).bind fun x g1 => (((ev cl b δ g1).bind fun y g2 => (evs cl .nil δ g2).bind fun xs g3 => .ok (y :: xs) g3)).bind fun xs g2 => .ok (x :: xs) g2).sat _ _
  rw [R.sat_bind]
  refine R.sat_mono q' (fun x g1 q1 => ?_) fun _ _ _ e => e
  rw [R.sat_bind] at q1
  rw [R.sat_bind, R.sat_bind]
  refine R.sat_mono q1 (fun y g2 q2 => ?_) fun _ _ _ e => e
  show ∀ A' H' vs, _
  intro A1 H1 vs n r1 rv
  obtain ⟨v, u, rfl, hx, hy⟩ := rpl2 rv
  split at q2
  · rename_i z ez
    exact zip_walk r1 hx hy ez fun J hJ => q2 A1 H1 J n r1 hJ
  · exact absurd q2 id
theorem s_enm (C : EnvOk X cA W cl tab lm k) {elts : List PySem.Expr} {kk : Nat} {tpos : Pos} {a : E} {px p : Pos} (hg : gloB X.env.scope "enumerate" = true) (h : PA X [a.py] (tA X.K cA W (evs cl (.cons a .nil)))) : PI X (.Tuple elts kk tpos) (It.enm px a p).py (tW X.K cA W (evI cl (.enm px a p))) := by
  refine ⟨fun pins s σ H R' I ⟨A, g, δ, r, l, q⟩ => (pi_enum (gloB_ok hg).1 C.nor.2.2 h (star_py a [] X.env)).run pins s σ H R' I ?_⟩
  have q' : ((ev cl a δ g).bind fun x g1 => (match lstD x g1 with
    | some _ => .ok (wkEnm x) g1
    | none => .bad)).sat (fun w g' => ∀ A' H' J, Nx A H A' H' → Rel X.K A' g' H' → JOk X.K A' H' J w → R' J H') (XP X.K cA W A H σ) := q
  rw [R.sat_bind] at q'
  refine ⟨A, g, δ, r, l, ?_⟩
  show ((ev cl a δ g).bind fun x g1 => (evs cl .nil δ g1).bind fun xs g2 => .ok (x :: xs) g2).sat _ _
  rw [R.sat_bind]
  refine R.sat_mono q' (fun x g1 q1 => ?_) fun _ _ _ e => e
  show ∀ A' H' vs, _
  intro A1 H1 vs n r1 rv
  obtain ⟨v, rfl, hx⟩ := rpl1 rv
  split at q1
  · rename_i ds e
    obtain ⟨a', ws, rfl, h1, h2⟩ := lstD_ok r1 hx e
    exact ⟨a', ws, rfl, h1, q1 A1 H1 _ n r1 (j_enm hx)⟩
  · exact absurd q1 id
/-! ### list comprehensions -/
theorem noEx_sat {β : Type} {r : R β} {Q : β → G → Prop} {E' E2 : Str → Fs → G → Prop} (h : (noEx r).sat Q E') : r.sat Q E2 := by
  cases r with
  | ok a g => exact h
  | ex c fs g => exact absurd h id
  | bad => exact h
def noW : WX := fun _ _ _ _ => False
theorem takesNo {X : Cx} : Takes X noW := LamX.takes0
/-- the block's context -/
abbrev bk (X : Cx) (s : Shared) (H : Hp) (scope : Scope) (C : Addr) (cs : List (Str × Addr)) (fp : List Addr) : Cx := X.blk s H scope (compEnvC scope cs C X.env) fp
theorem bk_scope {X : Cx} {s : Shared} {H : Hp} {scope : Scope} {C : Addr} {cs : List (Str × Addr)} {fp : List Addr} : (bk X s H scope C cs fp).env.scope = relS scope X.env.scope := rfl
theorem EnvOk.bk (C : EnvOk X cA W cl tab lm k) (s : Shared) (H : Hp) (scope : Scope) (c : Addr) (cs : List (Str × Addr)) (fp : List Addr) : EnvOk (PD.bk X s H scope c cs fp) cA noW cl tab none k :=
  ⟨C.calm, C.nd, C.room, takesNo, C.nob, C.nor, C.fns, C.kbs, fun _ z => nomatch z⟩
theorem s_f0 : PTs X [] (tT X.K cA noW (evF cl .nil)) := ⟨fun pins s σ H Q I ⟨A, g, δ, r, l, q⟩ => pts_nil.run pins s σ H Q I (q A H (Nx.refl _ _) r)⟩
theorem s_f1 {e : E} (h : PT X e.py (tT X.K cA noW (evT cl e))) : PTs X [e.py] (tT X.K cA noW (evF cl (.cons e .nil))) := ⟨fun pins s σ H Q I q => (pts_one h).run pins s σ H Q I q⟩
/-- one turn: the target, the tests, the element -/
def stepLc (tg : Tg) (ifs : Sl → G → R Bool) (elt : Sl → G → R D) (n : Nat) (δ : Sl) (d : D) (g : G) : R Unit := match tg.put g d δ with
  | some δ2 => (ifs δ2 g).bind fun b g3 => if b then (elt δ2 g3).bind fun y g4 => pushD n y g4 else .ok () g3
  | none => .bad
theorem lc_turn {K : PySem.W.Frag} {tg : Tg} {ifs : Sl → G → R Bool} {elt : Sl → G → R D} {n : Nat} {δ : Sl} {d : D} {A : List Addr} {g : G} {H : Hp} {σ : L2.St} {x : V} {vs : List Nat} {a : Addr} {P : Unit → G → Prop} {E' : Str → Fs → G → Prop} {N : Hp → Prop}
    (r : Rel K A g H) (l : LcR K A H δ (wipe σ vs)) (hx : Rp K A H d x) (ha : A[n]? = some a) (hs : ∀ i ∈ tg.sl, i ∈ vs) (h : (noEx (stepLc tg ifs elt n δ d g)).sat P E')
    (hN : ∀ A' g' H', Nx A H A' H' → Rel K A' g' H' → P () g' → N H') :
    gT K tg x (wipe σ vs) H fun σ2 H2 => wipe σ2 vs = wipe σ vs ∧ tT K cA noW ifs σ2 H2 fun b H3 => if b = true then tI K cA noW elt σ2 H3 fun y H4 => ∃ acc, H4 a = some (.lst acc) ∧ acc.length < sizeLine ∧ N (upd H4 a (.lst (acc ++ [y]))) else N H3 := by
  have h0 : (stepLc tg ifs elt n δ d g).sat P NoE := noEx_sat h
  unfold stepLc at h0
  split at h0
  · rename_i δ2 e
    obtain ⟨σ2, s1, l2, q⟩ := put_ok r tg hx l e
    refine q _ ⟨?_, ?_⟩
    · rw [wipe_same (s1.mono hs), wipe_wipe]
    · rw [R.sat_bind] at h0
      refine ⟨A, g, δ2, r, l2, R.sat_mono h0 (fun b g1 q1 A1 H1 n1 r1 => ?_) fun _ _ _ z => absurd z id⟩
      cases b with
      | false => exact hN A1 g1 H1 n1 r1 q1
      | true =>
        have q2 : ((elt δ2 g1).bind fun y g4 => pushD n y g4).sat P NoE := q1
        rw [R.sat_bind] at q2
        refine ⟨A1, g1, δ2, r1, l2.nx n1, R.sat_mono q2 (fun y g2 q3 A2 H2 v n2 r2' rv => ?_) fun _ _ _ z => absurd z id⟩
        unfold pushD at q3
        split at q3
        · rename_i ds en
          have ha2 := n2.at (n1.at ha)
          obtain ⟨ws, h1, h2⟩ := lst_of r2' ha2 en
          split at q3
          · rename_i hl
            obtain ⟨r3, n3⟩ := set_lst r2' (by assumption) ha2 (h2.append (.cons rv .nil))
            exact ⟨ws, h1, by rw [← h2.len]; exact hl, hN A2 _ _ ((n1.trans n2).trans n3) r3 q3⟩
          · exact absurd q3 id
        · exact absurd q3 id
  · exact absurd h0 id
/-- the walk, by the machine's loop -/
theorem lc_loop {K : PySem.W.Frag} {J : L2.It} {w : Wk} {step : D → G → R Unit} {A0 : List Addr} {H0 : Hp} {g0 : G} {Q : Hp → Prop} {F : V → Hp → (Hp → Prop) → Prop}
    (hJ : JOk K A0 H0 J w) (r0 : Rel K A0 g0 H0)
    (turn : ∀ A g H A' H' d x (P : Unit → G → Prop) (N : Hp → Prop), Nx A0 H0 A H → Rel K A g H → Nx A H A' H' → Rel K A' g H' → Rp K A' H' d x → (step d g).sat P NoE → (∀ A2 g2 H2, Nx A' H' A2 H2 → Rel K A2 g2 H2 → P () g2 → N H2) → F x H' N)
    (fuel : Nat) (h : (walk w step fuel 0 g0).sat (fun _ g5 => ∀ A' H', Nx A0 H0 A' H' → Rel K A' g5 H' → Q H') NoE) :
    ∃ W : Nat → Nat → Hp → Prop, (∃ m, W 0 m H0) ∧ ∀ i m H, W i m H → (J.stop i H ∧ Q H) ∨ (J.go i H ∧ ∃ N : Hp → Prop, (∀ H', N H' → ∃ m', m' < m ∧ W (i + 1) m' H') ∧ ∀ x H', J.yld i H x H' → F x H' N) := by
  refine ⟨fun i m H => ∃ A g, Nx A0 H0 A H ∧ Rel K A g H ∧ (walk w step m i g).sat (fun _ g5 => ∀ A' H', Nx A0 H0 A' H' → Rel K A' g5 H' → Q H') NoE, ⟨fuel, A0, g0, Nx.refl _ _, r0, h⟩, ?_⟩
  rintro i m H ⟨A, g, n, r, hw⟩
  cases m with
  | zero => exact absurd hw id
  | succ m =>
    obtain ⟨j1, j2⟩ := hJ A g H i n r
    have hw' : (match w i g with
      | none => .bad
      | some none => .ok () g
      | some (some d) => (step d g).bind fun _ g' => walk w step m (i + 1) g' : R Unit).sat (fun _ g5 => ∀ A' H', Nx A0 H0 A' H' → Rel K A' g5 H' → Q H') NoE := hw
    split at hw'
    · exact absurd hw' id
    · rename_i e
      exact .inl ⟨j1 e, hw' A H n r⟩
    · rename_i d e
      obtain ⟨jg, jy⟩ := j2 d e
      rw [R.sat_bind] at hw'
      refine .inr ⟨jg, fun H2 => ∃ A2 g2, Nx A0 H0 A2 H2 ∧ Rel K A2 g2 H2 ∧ (walk w step m (i + 1) g2).sat (fun _ g5 => ∀ A' H', Nx A0 H0 A' H' → Rel K A' g5 H' → Q H') NoE, fun H' hN => ⟨m, Nat.lt_succ_self m, hN⟩, fun x H' hy => ?_⟩
      obtain ⟨A', n', r', hx⟩ := jy x H' hy
      exact turn A g H A' H' d x _ _ n r n' r' hx hw' fun A2 g2 H2 n2 r2' p => ⟨A2, g2, n.trans (n'.trans n2), r2', p⟩
theorem lc_read {K : PySem.W.Frag} {it : Sl → G → R Wk} {tg : Tg} {ifs : Sl → G → R Bool} {elt : Sl → G → R D} {vs : List Nat} {σ : L2.St} {H : Hp} {Q : VK} (hs : ∀ i ∈ tg.sl, i ∈ vs)
    (h : tI K cA W (fun δ g => (it δ g).bind fun w g1 => (noEx (walk w (stepLc tg ifs elt g1.length (wipeD δ vs)) FUEL 0 (g1 ++ [.lst []]))).bind fun _ g5 => .ok (.ref g1.length) g5) σ H Q) :
    tLc (tW K cA W it) (gT K tg) (tT K cA noW ifs) (tI K cA noW elt) vs σ H Q := by
  obtain ⟨A, g, δ, r, l, q⟩ := h
  rw [R.sat_bind] at q
  refine ⟨A, g, δ, r, l, R.sat_mono q (fun w g1 q1 A1 H1 J n1 r1 hJ D hD => ?_) fun _ _ _ e => e⟩
  rw [R.sat_bind] at q1
  obtain ⟨r2, n2, e2⟩ := r1.alloc (o := .lst []) (u := .lst []) hD (fun A' H' x e => ⟨[], e, .nil⟩)
  have hJ2 : JOk K (A1 ++ [D]) (upd H1 D (.lst [])) J w := fun A g H i n => hJ A g H i (n2.trans n)
  have q2 := noEx_sat (E2 := NoE) q1
  refine lc_loop (Q := fun H => Q (.ref D) H) hJ2 r2 (fun A g H A' H' d x P N m1 m2 m3 m4 hx hp hN => ?_) FUEL (R.sat_mono q2 (fun _ g5 q3 A' H' n3 r3 => q3 A' H' _ (n1.trans (n2.trans n3)) r3 (.ref (n3.at e2))) fun _ _ _ z => absurd z id)
  exact lc_turn (E' := NoE) m4 ((wipe_rp vs l).nx (n1.trans (n2.trans (m1.trans m3)))) hx ((m1.trans m3).at e2) hs (by
    cases e : stepLc tg ifs elt g1.length (wipeD δ vs) d g with
    | ok a g => rw [e] at hp; exact hp
    | ex c fs g => rw [e] at hp; exact absurd hp id
    | bad => rw [e] at hp; exact absurd hp id) hN
theorem fset_py (it : It) (env : Env) (x : Value) : foldedSetIterable it.py env x = pure x := by
  cases it with
  | seq e => cases e <;> rfl
  | _ => rfl
def stepLc2 (tg : Tg) (ifs : Sl → G → R Bool) (it1 : Sl → G → R Wk) (tg1 : Tg) (ifs1 : Sl → G → R Bool) (elt : Sl → G → R D) (n : Nat) (δ : Sl) (vs1 : List Nat) (d : D) (g : G) : R Unit := match tg.put g d δ with
  | some δ2 => (ifs δ2 g).bind fun b g3 => if b then (it1 δ2 g3).bind fun w1 g4 => walk w1 (stepLc tg1 ifs1 elt n (wipeD δ2 vs1)) FUEL 0 g4 else .ok () g3
  | none => .bad
theorem sat_noE {β : Type} {r : R β} {Q : β → G → Prop} (h : r.sat Q NoE) : (noEx r).sat Q NoE := by
  cases r with
  | ok a g => exact h
  | ex c fs g => exact absurd h id
  | bad => exact h
theorem lc2_turn {K : PySem.W.Frag} {tg tg1 : Tg} {ifs ifs1 : Sl → G → R Bool} {it1 : Sl → G → R Wk} {elt : Sl → G → R D} {n : Nat} {δ : Sl} {d : D} {A : List Addr} {g : G} {H : Hp} {σ : L2.St} {x : V} {vs vs1 : List Nat} {a : Addr} {P : Unit → G → Prop} {N : Hp → Prop}
    (r : Rel K A g H) (l : LcR K A H δ (wipe σ vs)) (hx : Rp K A H d x) (ha : A[n]? = some a) (hs : ∀ i ∈ tg.sl, i ∈ vs) (hs1 : ∀ i ∈ tg1.sl, i ∈ vs1) (h0 : (stepLc2 tg ifs it1 tg1 ifs1 elt n δ vs1 d g).sat P NoE)
    (hN : ∀ A' g' H', Nx A H A' H' → Rel K A' g' H' → P () g' → N H') :
    gT K tg x (wipe σ vs) H fun σ2 H2 => wipe σ2 vs = wipe σ vs ∧ tT K cA noW ifs σ2 H2 fun b H3 => if b = true then tW K cA noW it1 σ2 H3 (fun J1 H4 => ∃ W1 : Nat → Nat → Hp → Prop, (∃ m, W1 0 m H4) ∧ ∀ j k H, W1 j k H →
      (J1.stop j H ∧ N H) ∨ (J1.go j H ∧ ∃ Nx1 : Hp → Prop, (∀ H', Nx1 H' → ∃ k', k' < k ∧ W1 (j + 1) k' H') ∧ ∀ x H', J1.yld j H x H' → gT K tg1 x (wipe σ2 vs1) H' fun σ3 H5 => wipe σ3 vs1 = wipe σ2 vs1 ∧ tT K cA noW ifs1 σ3 H5 fun b H6 =>
        if b = true then tI K cA noW elt σ3 H6 fun y H7 => ∃ acc, H7 a = some (.lst acc) ∧ acc.length < sizeLine ∧ Nx1 (upd H7 a (.lst (acc ++ [y]))) else Nx1 H6)) else N H3 := by
  unfold stepLc2 at h0
  split at h0
  · rename_i δ2 e
    obtain ⟨σ2, s1, l2, q⟩ := put_ok r tg hx l e
    refine q _ ⟨?_, ?_⟩
    · rw [wipe_same (s1.mono hs), wipe_wipe]
    · rw [R.sat_bind] at h0
      refine ⟨A, g, δ2, r, l2, R.sat_mono h0 (fun b g1 q1 A1 H1 n1 r1 => ?_) fun _ _ _ z => absurd z id⟩
      cases b with
      | false => exact hN A1 g1 H1 n1 r1 q1
      | true =>
        have q2 : ((it1 δ2 g1).bind fun w1 g4 => walk w1 (stepLc tg1 ifs1 elt n (wipeD δ2 vs1)) FUEL 0 g4).sat P NoE := q1
        rw [R.sat_bind] at q2
        refine ⟨A1, g1, δ2, r1, l2.nx n1, R.sat_mono q2 (fun w1 g2 q3 A2 H2 J n2 r2' hJ => ?_) fun _ _ _ z => absurd z id⟩
        refine lc_loop (Q := N) hJ r2' (fun A3 g3 H3 A' H' d' x' P' N' m1 m2 m3 m4 hx' hp hN' => ?_) FUEL (R.sat_mono q3 (fun _ g5 q4 A' H' n3 r3 => hN A' g5 H' (n1.trans (n2.trans n3)) r3 q4) fun _ _ _ z => absurd z id)
        exact lc_turn (E' := NoE) m4 ((wipe_rp vs1 l2).nx (n1.trans (n2.trans (m1.trans m3)))) hx' ((n1.trans (n2.trans (m1.trans m3))).at ha) hs1 (sat_noE hp) hN'
  · exact absurd h0 id
theorem lc2_read {K : PySem.W.Frag} {it it1 : Sl → G → R Wk} {tg tg1 : Tg} {ifs ifs1 : Sl → G → R Bool} {elt : Sl → G → R D} {vs vs1 : List Nat} {σ : L2.St} {H : Hp} {Q : VK} (hs : ∀ i ∈ tg.sl, i ∈ vs) (hs1 : ∀ i ∈ tg1.sl, i ∈ vs1)
    (h : tI K cA W (fun δ g => (it δ g).bind fun w g1 => (noEx (walk w (stepLc2 tg ifs it1 tg1 ifs1 elt g1.length (wipeD δ vs) vs1) FUEL 0 (g1 ++ [.lst []]))).bind fun _ g5 => .ok (.ref g1.length) g5) σ H Q) :
    tLc2 (tW K cA W it) (gT K tg) (tT K cA noW ifs) (tW K cA noW it1) (gT K tg1) (tT K cA noW ifs1) (tI K cA noW elt) vs vs1 σ H Q := by
  obtain ⟨A, g, δ, r, l, q⟩ := h
  rw [R.sat_bind] at q
  refine ⟨A, g, δ, r, l, R.sat_mono q (fun w g1 q1 A1 H1 J n1 r1 hJ D hD => ?_) fun _ _ _ e => e⟩
  rw [R.sat_bind] at q1
  obtain ⟨r2, n2, e2⟩ := r1.alloc (o := .lst []) (u := .lst []) hD (fun A' H' x e => ⟨[], e, .nil⟩)
  have hJ2 : JOk K (A1 ++ [D]) (upd H1 D (.lst [])) J w := fun A g H i n => hJ A g H i (n2.trans n)
  have q2 := noEx_sat (E2 := NoE) q1
  refine lc_loop (Q := fun H => Q (.ref D) H) hJ2 r2 (fun A g H A' H' d x P N m1 m2 m3 m4 hx hp hN => ?_) FUEL (R.sat_mono q2 (fun _ g5 q3 A' H' n3 r3 => q3 A' H' _ (n1.trans (n2.trans n3)) r3 (.ref (n3.at e2))) fun _ _ _ z => absurd z id)
  exact lc2_turn m4 ((wipe_rp vs l).nx (n1.trans (n2.trans (m1.trans m3)))) hx ((m1.trans m3).at e2) hs hs1 hp hN
end
end PD
set_option Elab.async false
set_option linter.all false
set_option maxRecDepth 100000
set_option maxHeartbeats 4000000
/-! PD11: get, dict displays, keywords; all expressions. -/
namespace PD
open PySem PySem.Spec PyProof.Rows L2
variable [Tb]
section
variable {X : Cx} {cA : Str → Addr} {W : WX} {cl : Nat → List D → G → R D} {tab : Nat → Option FnI} {lm : Lm} {k : Nat}
theorem s_get (C : EnvOk X cA W cl tab lm k) {o e d : E} {pa p : Pos} (hr : rcvB o = true) (hl : (pa.endLine == p.line) = true) (ho : PE X o.py (tI X.K cA W (ev cl o))) (he : PE X e.py (tI X.K cA W (ev cl e))) (hd : PE X d.py (tI X.K cA W (ev cl d))) :
    PE X (E.get o pa e d p).py (tI X.K cA W (ev cl (.get o pa e d p))) := by
  have m : M2 X o.py "get" pa e.py d.py p := by
    refine ⟨base_py hr _ _ _, few_pys (es := .cons e (.cons d .nil)) (by show 2 < 20; decide), hl, ?_⟩
    show backTo p (starEach (e.py :: [d.py]) X.env) = _
    rw [star_py, show ([d.py] : List PySem.Expr) = d.py :: [] from rfl, star_py]
    rfl
  refine ⟨fun pins s σ H Q I q => (pe_dget2 (by have := C.u; omega) ho he hd m).run pins s σ H Q I ?_⟩
  refine tI_bind (f := fun x δ g1 => if (dicD x g1).isSome then (ev cl e δ g1).bind fun y g2 => (ev cl d δ g2).bind fun z g3 => getR x y z g3 else .bad) q fun A g δ x v H1 r l rx q1 => ?_
  split at q1
  · rename_i hi
    obtain ⟨kvs, ek⟩ := Option.isSome_iff_exists.mp hi
    obtain ⟨a, ws, rfl, h1, h2⟩ := dicD_ok r rx ek
    refine ⟨a, rfl, .inl ⟨ws, .of h1⟩, ?_⟩
    rw [R.sat_bind] at q1
    refine ⟨A, g, δ, r, l, R.sat_mono q1 (fun y g2 q2 A2 H2 u n2 r2' ru => ?_) fun _ _ _ e => e⟩
    rw [R.sat_bind] at q2
    refine ⟨A2, g2, δ, r2', l.nx n2, R.sat_mono q2 (fun z g3 q3 A3 H3 t n3 r3 rt => ?_) fun _ _ _ e => XP.nx n2 e⟩
    unfold getR at q3
    split at q3
    · rename_i kvs3 ky e1 e2
      obtain ⟨b, zs, eb, h3, h4⟩ := dicD_ok r3 ((rx.nx n2).nx n3) e1
      cases eb
      have ev' := keyD_ok (ru.nx n3) e2
      refine ⟨valV zs ky, by rw [ev']; exact DGet.k h3, ?_⟩
      obtain ⟨k1, k2⟩ := getK_ok ky h4
      cases ez : getK ky kvs3 with
      | none =>
        rw [ez] at q3
        rw [k1 ez]
        exact q3 A3 H3 t (n2.trans n3) r3 rt
      | some d' =>
        rw [ez] at q3
        obtain ⟨w', e3, e4⟩ := k2 d' ez
        rw [e3]
        exact q3 A3 H3 w' (n2.trans n3) r3 e4
    · exact absurd q3 id
  · exact absurd q1 id
/-! ### dict displays -/
def AllPE (X : Cx) (cA : Str → Addr) (W : WX) (cl : Nat → List D → G → R D) : Es → Prop
  | .nil => True
  | .cons e r => PE X e.py (tI X.K cA W (ev cl e)) ∧ AllPE X cA W cl r
def trsOf (K : PySem.W.Frag) (cA : Str → Addr) (W : WX) (cl : Nat → List D → G → R D) : Es → List (TE × TE)
  | .nil => []
  | .cons _ .nil => []
  | .cons k (.cons v r) => (tI K cA W (ev cl k), tI K cA W (ev cl v)) :: trsOf K cA W cl r
def Es.even : Es → Bool
  | .nil => true
  | .cons _ .nil => false
  | .cons _ (.cons _ r) => r.even
theorem s_pps {pos : Pos} : ∀ kvs : Es, kvs.even = true → AllPE X cA W cl kvs → PPs X pos ((evens kvs.pys).map some) (odds kvs.pys) (trsOf X.K cA W cl kvs)
  | .nil, _, _ => pps_nil
  | .cons _ .nil, h, _ => by cases h
  | .cons k (.cons v r), h, a => pps_cons a.1 a.2.1 (s_pps r h a.2.2)
theorem tPairs_of {K : PySem.W.Frag} : ∀ (kvs : Es) (σ : L2.St) (H : Hp) (Q : List (V × V) → Hp → Prop) (A : List Addr) (g : G) (δ : Sl), kvs.even = true → Rel K A g H → LcR K A H δ σ →
    (evs cl kvs δ g).sat (fun ds g' => ∀ A' H' vs, Nx A H A' H' → Rel K A' g' H' → RpL K A' H' ds vs → Q ((evens vs).zip (odds vs)) H') (XP K cA W A H σ) → tPairs (trsOf K cA W cl kvs) σ H Q
  | .nil, σ, H, Q, A, g, δ, _, r, l, h => h A H [] (Nx.refl _ _) r .nil
  | .cons _ .nil, _, _, _, _, _, _, he, _, _, _ => by cases he
  | .cons e (.cons v r'), σ, H, Q, A, g, δ, he, r, l, h => by
    have h' : ((ev cl e δ g).bind fun x g1 => (((ev cl v δ g1).bind fun y g2 => (evs cl r' δ g2).bind fun ys g3 => .ok (y :: ys) g3)).bind fun xs g2 => .ok (x :: xs) g2).sat (fun ds g' => ∀ A' H' vs, Nx A H A' H' → Rel K A' g' H' → RpL K A' H' ds vs → Q ((evens vs).zip (odds vs)) H') (XP K cA W A H σ) := h
    rw [R.sat_bind] at h'
    show tI K cA W (ev cl e) σ H fun x H1 => tI K cA W (ev cl v) σ H1 fun y H2 => tPairs (trsOf K cA W cl r') σ H2 fun ps H3 => Q ((x, y) :: ps) H3
    refine ⟨A, g, δ, r, l, R.sat_mono h' (fun x g1 q1 A1 H1 vx n1 r1 rx => ?_) fun _ _ _ e => e⟩
    rw [R.sat_bind, R.sat_bind] at q1
    refine ⟨A1, g1, δ, r1, l.nx n1, R.sat_mono q1 (fun y g2 q2 A2 H2 vy n2 r2' ry => ?_) fun _ _ _ e => XP.nx n1 e⟩
    rw [R.sat_bind] at q2
    refine tPairs_of r' σ H2 _ A2 g2 δ he r2' (l.nx (n1.trans n2)) (R.sat_mono q2 (fun ys g3 q3 A3 H3 vs n3 r3 rvs => ?_) fun _ _ _ e => XP.nx (n1.trans n2) e)
    exact q3 A3 H3 (vx :: vy :: vs) ((n1.trans n2).trans n3) r3 (.cons (rx.nx (n2.trans n3)) (.cons (ry.nx n3) rvs))
theorem kvs_rp {K : PySem.W.Frag} {A : List Addr} {H : Hp} : ∀ {ds : List D} {vs : List V} {kvs : List (Key × D)}, RpL K A H ds vs → kvsD ds = some kvs → ∃ ws : List (Key × V), (evens vs).zip (odds vs) = ws.map (fun kv => (kV kv.1, kv.2)) ∧ RpF K A H kvs ws ∧ ws.length = kvs.length
  | [], _, _, .nil, e => by cases e; exact ⟨[], rfl, .nil, rfl⟩
  | [_], _, _, .cons _ .nil, e => by cases e
  | x :: y :: r, _, kvs, .cons hx (.cons hy t), e => by
    have e' : (match keyD x, kvsD r with
      | some k', some r => some ((k', y) :: r)
      | _, _ => none) = some kvs := e
    split at e'
    · rename_i k' r' ek er
      cases e'
      obtain ⟨ws, h1, h2, h3⟩ := kvs_rp t er
      have := keyD_ok hx ek
      subst this
      exact ⟨(k', _) :: ws, by rw [List.map_cons, ← h1]; rfl, .cons ⟨rfl, hy⟩ h2, congrArg (· + 1) h3⟩
    · cases e'
theorem evens_len : ∀ es : Es, es.even = true → (evens es.pys).length = (odds es.pys).length
  | .nil, _ => rfl
  | .cons _ .nil, h => by cases h
  | .cons k (.cons v r), h => congrArg (· + 1) (evens_len r h)
theorem evens_le : ∀ es : Es, (evens es.pys).length ≤ es.len
  | .nil => Nat.le_refl 0
  | .cons _ .nil => Nat.zero_le _
  | .cons k (.cons v r) => by
    have := evens_le r
    show (evens r.pys).length + 1 ≤ r.len + 1 + 1
    omega
theorem s_dct {kvs : Es} {p : Pos} (he : kvs.even = true) (hl : kvs.len ≤ 15) (h : AllPE X cA W cl kvs) : PE X (E.dct kvs p).py (tI X.K cA W (ev cl (.dct kvs p))) := by
  refine ⟨fun pins s σ H Q I ⟨A, g, δ, r, l, q⟩ => ?_⟩
  have q' : ((evs cl kvs δ (g ++ [.dic []])).bind fun xs g1 => fillD g.length xs g1).sat (GoD X.K A H Q) (XP X.K cA W A H σ) := q
  rw [R.sat_bind] at q'
  have main : ∀ p0 : Addr, H p0 = none → tPairs (trsOf X.K cA W cl kvs) σ (upd H p0 (.dK [])) fun ps H2 => H2 p0 = some (.dK []) ∧ ∃ ks : List (Key × V), ps = ks.map (fun kv => (kV kv.1, kv.2)) ∧ ks.length ≤ 15 ∧ Q (.ref p0) (upd H2 p0 (.dK (mergeK [] ks))) := fun p0 hp0 => by
    obtain ⟨r1, n1, e1⟩ := r.alloc (o := .dic []) (u := .dK []) hp0 (fun A' H' x e => ⟨[], e, .nil⟩)
    refine tPairs_of kvs σ _ _ _ _ δ he r1 (l.nx n1) (R.sat_mono q' (fun ds g2 q2 A2 H2 vs n2 r2' rvs => ?_) fun _ _ _ e => XP.nx n1 e)
    unfold fillD at q2
    split at q2
    · rename_i ks en ek
      obtain ⟨ws, h1, h2, h3⟩ := kvs_rp rvs ek
      have ha := n2.at e1
      obtain ⟨zs, hz, hzr⟩ := r2'.obj _ _ _ en ha
      cases hzr
      split at q2
      · rename_i hle
        obtain ⟨r3, n3⟩ := r2'.write (o := .dic (mergeD ks)) (u := .dK (mergeK [] ws)) ha (fun kvs z => by rw [en] at z; cases z) fun A' H' x e => ⟨_, e, merge_rp (RpF.nx x h2) .nil⟩
        exact ⟨hz, ws, h1, by rw [h3]; exact hle, q2 A2 _ _ (n1.trans (n2.trans n3)) r3 (.ref ha)⟩
      · exact absurd q2 id
    · exact absurd q2 id
  cases kvs with
  | nil =>
    refine pe_dnewK.run pins s σ H Q I fun p0 hp0 => ?_
    obtain ⟨_, ks, e1, _, q1⟩ := main p0 hp0
    have e2 : ks = [] := by cases ks with
      | nil => rfl
      | cons a b => cases e1
    subst e2
    rw [upd_upd] at q1
    exact q1
  | cons a b =>
    cases b with
    | nil => cases he
    | cons v r' =>
      refine (pe_disp (s_pps (pos := p) (.cons a (.cons v r')) he h) (by simp) (by rw [List.length_map]; exact evens_len _ he) (by
        show some a.py :: _ ≠ []
        exact fun z => nomatch z) (by
        rw [List.length_map]
        exact Nat.le_trans (evens_le _) hl)).run pins s σ H Q I main
/-! ### keywords -/
theorem pk_of : ∀ (ks : List (Str × Pos)) (vs : Es), ks.length = vs.len → AllPE X cA W cl vs → PK X (pyKw ks vs.pys) (tA X.K cA W (evs cl vs))
  | [], .nil, _, _ => ⟨fun pos pins s σ H Q I ⟨A, g, δ, r, l, q⟩ => pk_nil.run pos pins s σ H Q I (q A H [] (Nx.refl _ _) r .nil)⟩
  | [], .cons _ _, h, _ => by cases h
  | _ :: _, .nil, h, _ => by cases h
  | q :: ks, .cons e r, h, a => by
    refine ⟨fun pos pins s σ H Q I ⟨A, g, δ, rr, l, z⟩ => (pk_cons (nm := some q.1) (kpos := q.2) a.1 (pk_of ks r (Nat.succ.inj h) a.2)).run pos pins s σ H Q I ?_⟩
    have z' : ((ev cl e δ g).bind fun x g1 => (evs cl r δ g1).bind fun xs g2 => .ok (x :: xs) g2).sat (fun ds g' => ∀ A' H' vs, Nx A H A' H' → Rel X.K A' g' H' → RpL X.K A' H' ds vs → Q vs H') (XP X.K cA W A H σ) := z
    rw [R.sat_bind] at z'
    refine ⟨A, g, δ, rr, l, R.sat_mono z' (fun x g1 q1 A1 H1 v n r1 rv => ?_) fun _ _ _ e => e⟩
    rw [R.sat_bind] at q1
    exact ⟨A1, g1, δ, r1, l.nx n, R.sat_mono q1 (fun xs g2 q2 A2 H2 vs n2 r2' rvs => q2 A2 H2 (v :: vs) (n.trans n2) r2' (.cons (rv.nx n2) rvs)) fun _ _ _ e => XP.nx n e⟩
theorem kw_all : ∀ (ks : List (Str × Pos)) (es : List PySem.Expr) (env : Env) (pos : Pos), (backToKw pos (keywordEach (pyKw ks es) env)).all (·.1.isSome) = true ∧ (backToKw pos (keywordEach (pyKw ks es) env)).any (·.1.isNone) = false
  | [], _, _, _ => ⟨rfl, rfl⟩
  | _ :: _, [], _, _ => ⟨rfl, rfl⟩
  | q :: ks, e :: es, env, pos => by
    obtain ⟨h1, h2⟩ := kw_all ks es env pos
    refine ⟨?_, ?_⟩
    · show (true && (backToKw pos (keywordEach (pyKw ks es) env)).all (·.1.isSome)) = true
      rw [h1]; rfl
    · show (false || (backToKw pos (keywordEach (pyKw ks es) env)).any (·.1.isNone)) = false
      rw [h2]; rfl
theorem kw_names : ∀ (ks : List (Str × Pos)) (vs : Es) (env : Env) (pos : Pos), ks.length = vs.len → (backToKw pos (keywordEach (pyKw ks vs.pys) env)).filterMap (·.1) = ks.map (·.1)
  | [], _, _, _, _ => rfl
  | _ :: _, .nil, _, _, h => by cases h
  | q :: ks, .cons e r, env, pos, h => by
    show q.1 :: (backToKw pos (keywordEach (pyKw ks r.pys) env)).filterMap (·.1) = q.1 :: ks.map (·.1)
    rw [kw_names ks r env pos (Nat.succ.inj h)]
theorem getD_rv : ∀ {vs : List V} {us : List Value} (j : Nat), Vals vs us → RelV (vs.getD j .non) (us.getD j .none)
  | _, _, _, .nil => rfl
  | _, _, 0, .cons h _ => h
  | _, _, j + 1, .cons _ t => by
    have := getD_rv j t
    simpa using this
theorem getD_rp {K : PySem.W.Frag} {A : List Addr} {H : Hp} : ∀ {ds : List D} {vs : List V} (j : Nat), RpL K A H ds vs → Rp K A H (ds.getD j .non) (vs.getD j .non)
  | _, _, _, .nil => .non
  | _, _, 0, .cons h _ => h
  | _, _, j + 1, .cons _ t => by
    have := getD_rp j t
    simpa using this
theorem perm_rv {vs : List V} {us : List Value} (h : Vals vs us) : ∀ idx : List Nat, Vals (idx.map fun j => vs.getD j .non) (idx.map fun j => us.getD j .none)
  | [] => .nil
  | j :: r => .cons (getD_rv j h) (perm_rv h r)
theorem perm_rp {K : PySem.W.Frag} {A : List Addr} {H : Hp} {ds : List D} {vs : List V} (h : RpL K A H ds vs) : ∀ idx : List Nat, RpL K A H (idx.map fun j => ds.getD j .non) (idx.map fun j => vs.getD j .non)
  | [] => .nil
  | j :: r => .cons (getD_rp j h) (perm_rp h r)
theorem s_callK (C : EnvOk X cA W cl tab lm k) {f : Nat} {F : FnI} {px p : Pos} {ks : List (Str × Pos)} {idx : List Nat} {vs : Es} (hF : tab f = some F) (hg : gloB X.env.scope F.x = true) (hk : (ks.map (·.1), idx) ∈ F.kss) (hl : ks.length = vs.len) (h : AllPE X cA W cl vs) :
    PE X (E.callK f F.x px ks idx vs p).py (tI X.K cA W (ev cl (.callK f F.x px ks idx vs p))) := by
  obtain ⟨hm, hkp, hb, hf⟩ := C.fns f F hF
  obtain ⟨hil, hbt⟩ := C.kbs f F _ _ hF hk
  refine ⟨fun pins s σ H Q I q => ?_⟩
  refine wpAny_Call_Name_kw (ld_glob I (gloB_ok hg).1 hm ?_ (gloB_ok hg).2)
  refine PySem.W.callWith_KW0 (first := []) (h₀ := X.base) I.ok.mod.kin hkp (kw_all ks vs.pys X.env p).1 ?_ (by
    rw [(kw_all ks vs.pys X.env p).2]
    rfl)
  have q0 : tI X.K cA W (fun δ g => (evs cl vs δ g).bind fun ys g1 => cl f (idx.map fun j => ys.getD j .non) g1) σ H Q := q
  obtain ⟨A, g, δ, r, l, q1⟩ := q0
  rw [R.sat_bind] at q1
  have q2 : tA X.K cA W (evs cl vs) σ H fun ws H1 => ws.length = ks.length ∧ ∃ A1 g1 ds, Rel X.K A1 g1 H1 ∧ RpL X.K A1 H1 ds ws ∧ (cl f (idx.map fun j => ds.getD j .non) g1).sat (GoD X.K A1 H1 Q) (XP X.K cA W A1 H1 σ) := by
    refine ⟨A, g, δ, r, l, ?_⟩
    cases eo : evs cl vs δ g with
    | bad => rw [eo] at q1; exact q1
    | ex c fs g' => rw [eo] at q1; exact q1
    | ok xs g1 =>
      rw [eo] at q1
      have hlen := evs_len vs δ g xs g1 eo
      intro A1 H1 ws n1 r1 rv
      exact ⟨by rw [← rv.len, hlen, hl], A1, g1, xs, r1, rv, R.sat_mono q1 (fun _ _ => GoD.nx n1) fun c fs g' e => XP.nx (W := W) n1 e⟩
  refine thn ((pk_of ks vs hl h).run p pins s σ H _ I q2) fun us s2 ⟨zs, H2, I2, rz, hzl, A2, g2, ds, r2', rds, q3⟩ => ⟨I2.kIn, ?_⟩
  rw [kw_names ks vs X.env p hl]
  have hul : us.length = (ks.map (·.1)).length := by rw [← rz.length, hzl, List.length_map]
  have hbind := hbt s2 us I2.kIn hul
  have rp := perm_rv rz idx
  have sp : spI X.K cA cl F.ps.length f (idx.map fun j => zs.getD j .non) H2 Q (WE W σ) := ⟨by rw [List.length_map]; exact hil, A2, g2, _, r2', perm_rp rds idx, q3⟩
  have e0 : ([] ++ [] : List Value) = [] := rfl
  rw [e0]
  refine wpAny_call (codeAny_mono (hf.run X.A X.stack s2 H2 ⟨[], (ks.map fun x => x.1).zip us⟩ _ _ Q (WE W σ) C.room I2.env0 hbind rp sp) fun r s' hq => ?_)
  cases r with
  | error e => exact passAt C.takes σ pins H2 s2 e s' I2 hq
  | ok fl =>
    cases fl with
    | ret u => exact I2.after hq
    | next => exact False.elim hq
    | brk => exact False.elim hq
    | cont => exact False.elim hq
end

/-! ### the check of a text -/
/-- what a def's name, its number of parameters, its keyword forms are, by number -/
structure Sig where
  x : Str
  n : Nat
  kss : List (List Str × List Nat)
/-- walks that a plain name may take -/
def It.nm : It → Bool
  | .seq _ => true
  | .rng1 _ _ _ => true
  | .rng2 _ _ _ _ => true
  | _ => false
def Tg.isTup : Tg → Bool
  | .tup _ _ _ => true
  | _ => false
mutual
def ownB (scope : Scope) : Tg → Bool
  | .name _ x _ => (match scope.names.lookup x with
    | some .local => true
    | some .cell => true
    | _ => false)
  | .tup ts _ _ => ownBs scope ts
def ownBs (scope : Scope) : List Tg → Bool
  | [] => true
  | t :: ts => ownB scope t && ownBs scope ts
end
section
variable (sg : Nat → Option Sig) (N : List Str)
def sigB (f : Nat) (x : Str) (n : Nat) : Bool := match sg f with
  | some q => decide (q.x = x) && decide (q.n = n)
  | none => false
def kssB (f : Nat) (x : Str) (ks : List Str) (idx : List Nat) : Bool := match sg f with
  | some q => decide (q.x = x) && decide ((ks, idx) ∈ q.kss)
  | none => false
def subB (a b : List Nat) : Bool := a.all fun i => decide (i ∈ b)
mutual
def okE (lm : Lm) (sc : Scope) : E → Bool
  | .var i x _ => decide (N[i]? = some x) && visB sc x && !(x == ("__debug__" : Str)) && !(x == ("__classdict__" : Str))
  | .typ b _ => gloB sc b.nm && b.isTy
  | .num _ _ _ => true
  | .txt _ _ _ => true
  | .boo _ _ _ => true
  | .non _ _ => true
  | .bin _ a b _ => okE lm sc a && okE lm sc b
  | .neg a _ => okE lm sc a
  | .nt a _ => okE lm sc a
  | .bop _ es _ => okEs lm sc es && !es.isNil
  | .ife c a b _ => okE lm sc c && okE lm sc a && okE lm sc b
  | .cmp _ a b _ => okE lm sc a && okE lm sc b
  | .idx a i _ => okE lm sc a && okE lm sc i
  | .slc a lo hi _ _ => okE lm sc a && okO lm sc lo && okO lm sc hi
  | .tup es _ _ => okEs lm sc es
  | .lst es _ => okEs lm sc es
  | .dct kvs _ => okEs lm sc kvs && kvs.even && decide (kvs.len ≤ 15)
  | .blt b _ es _ => okEs lm sc es && gloB sc b.nm && !es.isNil
  | .call f x _ es _ => okEs lm sc es && gloB sc x && sigB sg f x es.len
  | .callK f x _ ks idx vs _ => okEs lm sc vs && gloB sc x && kssB sg f x (ks.map (·.1)) idx && decide (ks.length = vs.len)
  | .mth _ o pa es p => okE lm sc o && okEs lm sc es && rcvB o && (pa.endLine == p.line) && decide (es.len < 20) && !es.isNil
  | .get o pa e d p => okE lm sc o && okE lm sc e && okE lm sc d && rcvB o && (pa.endLine == p.line)
  | .lc elt tg it ifs scope own _ => okI lm sc it && okE none (relS scope sc) elt && okEs none (relS scope sc) ifs && tg.ok N (relS scope sc) && ownB scope tg && blkC N sc scope own && subB tg.sl (own.map (·.2)) && decide (ifs.len ≤ 1) && (tg.isTup || it.nm)
  | .lc2 elt tg it ifs tg1 it1 ifs1 scope own vs1 _ => okI lm sc it && okI none (relS scope sc) it1 && okE none (relS scope sc) elt && okEs none (relS scope sc) ifs && okEs none (relS scope sc) ifs1 && tg.ok N (relS scope sc) && tg1.ok N (relS scope sc) && ownB scope tg && ownB scope tg1 && blkC N sc scope own &&
      subB tg.sl (own.map (·.2)) && subB tg1.sl vs1 && subB vs1 (own.map (·.2)) && decide (ifs.len ≤ 1) && decide (ifs1.len ≤ 1) && (tg.isTup || it.nm) && (tg1.isTup || it1.nm)
  | .met hs x _ body scope _ _ => okE none scope body && LamX.lamSB sc scope && gloB sc x && decide (lm = some (x, hs))
def okEs (lm : Lm) (sc : Scope) : Es → Bool
  | .nil => true
  | .cons e r => okE lm sc e && okEs lm sc r
def okO (lm : Lm) (sc : Scope) : Oe → Bool
  | .none => true
  | .some e => okE lm sc e
def okI (lm : Lm) (sc : Scope) : It → Bool
  | .seq e => okE lm sc e
  | .rng1 _ a _ => okE lm sc a && gloB sc "range"
  | .rng2 _ a b _ => okE lm sc a && okE lm sc b && gloB sc "range"
  | .zip _ a b _ => okE lm sc a && okE lm sc b && gloB sc "zip"
  | .enm _ a _ => okE lm sc a && gloB sc "enumerate"
end
end
end PD
set_option Elab.async false
set_option linter.all false
set_option maxRecDepth 100000
set_option maxHeartbeats 4000000
/-! PD12: every expression that passes the check keeps to its meaning. -/
namespace PD
open PySem PySem.Spec PyProof.Rows L2
variable [Tb]
def TabOk (sg : Nat → Option Sig) (tab : Nat → Option FnI) : Prop := ∀ i q, sg i = some q → ∃ F, tab i = some F ∧ F.x = q.x ∧ F.ps.length = q.n ∧ F.kss = q.kss
theorem subB_ok {a b : List Nat} (h : subB a b = true) : ∀ i ∈ a, i ∈ b := fun i hi => of_decide_eq_true (List.all_eq_true.mp h i hi)
mutual
theorem fn_blk {X : Cx} {s : Shared} {H : Hp} {scope : Scope} {c : Addr} {cs : List (Str × Addr)} {fp : List Addr} : ∀ t : Tg, ownB scope t = true → t.fnOk (bk X s H scope c cs fp)
  | .name i x p, h => by
    have h' : (match scope.names.lookup x with
      | some .local => true
      | some .cell => true
      | _ => false) = true := h
    split at h'
    · rename_i e
      refine .inr ?_
      show (relS scope X.env.scope).names.lookup x = some .local
      exact lookup_relS_keep (by decide) e
    · rename_i e
      refine .inl ?_
      show (scope.names.lookup x == some .cell) = true
      rw [e]
      rfl
    · cases h'
  | .tup ts k p, h => fn_blks ts h
theorem fn_blks {X : Cx} {s : Shared} {H : Hp} {scope : Scope} {c : Addr} {cs : List (Str × Addr)} {fp : List Addr} : ∀ ts : List Tg, ownBs scope ts = true → Tg.fnOks (bk X s H scope c cs fp) ts
  | [], _ => trivial
  | t :: ts, h => by
    have h' : (ownB scope t && ownBs scope ts) = true := h
    rw [Bool.and_eq_true] at h'
    exact ⟨fn_blk t h'.1, fn_blks ts h'.2⟩
end
section
variable (cA : Str → Addr) (cl : Nat → List D → G → R D) (tab : Nat → Option FnI) (k : Nat) (sg : Nat → Option Sig)
def SndE (e : E) : Prop := ∀ (X : Cx) (W : WX) (lm : Lm), EnvOk X cA W cl tab lm k → okE sg X.N lm X.env.scope e = true → PE X e.py (tI X.K cA W (ev cl e)) ∧ PT X e.py (tT X.K cA W (evT cl e))
def SndEs (es : Es) : Prop := ∀ (X : Cx) (W : WX) (lm : Lm), EnvOk X cA W cl tab lm k → okEs sg X.N lm X.env.scope es = true → PA X es.pys (tA X.K cA W (evs cl es)) ∧ AllPE X cA W cl es ∧
  ∀ (b : Bool) (p : Pos), es.isNil = false → PE X (.BoolOp (if b then .And else .Or) es.pys p) (tI X.K cA W (evB cl b es)) ∧ PW X (.BoolOp (if b then .And else .Or) es.pys p) (tT X.K cA W (evTB cl b es))
def SndO (o : Oe) : Prop := ∀ (X : Cx) (W : WX) (lm : Lm), EnvOk X cA W cl tab lm k → okO sg X.N lm X.env.scope o = true → PO X o.py (tOI X.K cA W (evO cl o))
def SndI (it : It) : Prop := ∀ (X : Cx) (W : WX) (lm : Lm), EnvOk X cA W cl tab lm k → okI sg X.N lm X.env.scope it = true → ∀ t : Tg, (t.isTup || it.nm) = true → PI X t.py it.py (tW X.K cA W (evI cl it))
def SndF (es : Es) : Prop := ∀ (X : Cx) (W : WX) (lm : Lm), EnvOk X cA W cl tab lm k → okEs sg X.N lm X.env.scope es = true → es.len ≤ 1 → ∀ e r, es = .cons e r → PT X e.py (tT X.K cA W (evT cl e))
end
section
variable {cA : Str → Addr} {cl : Nat → List D → G → R D} {tab : Nat → Option FnI} {lm : Lm} {k : Nat} {sg : Nat → Option Sig}
theorem t_none {X : Cx} {W : WX} {e : PySem.Expr} : PT X e (tT X.K cA W fun _ _ => .bad) := ⟨fun _ _ _ _ _ _ ⟨_, _, _, _, _, q⟩ => absurd q id⟩
theorem and2 {a b : Bool} (h : (a && b) = true) : a = true ∧ b = true := Bool.and_eq_true_iff.mp h
theorem pts_of {X : Cx} {ifs : Es} (hl : ifs.len ≤ 1) (h : ∀ e r, ifs = .cons e r → PT X e.py (tT X.K cA noW (evT cl e))) : PTs X ifs.pys (tT X.K cA noW (evF cl ifs)) := by
  cases ifs with
  | nil => exact s_f0
  | cons e r =>
    cases r with
    | nil => exact s_f1 (h e .nil rfl)
    | cons a b => exact absurd hl (by show ¬ (b.len + 1 + 1 ≤ 1); omega)
theorem tup_py {t : Tg} (h : t.isTup = true) : ∃ elts kk tpos, t.py = .Tuple elts kk tpos := by
  cases t with
  | name i x p => cases h
  | tup ts k p => exact ⟨_, _, _, rfl⟩
theorem snd_lc {elt : E} {tg : Tg} {it : It} {ifs : Es} {scope : Scope} {own : List (Str × Nat)} {p : Pos} (hi : SndI cA cl tab k sg it) (hf : SndEs cA cl tab k sg ifs) (hf1 : ∀ (X : Cx) (W : WX) (lm : Lm), EnvOk X cA W cl tab lm k → okEs sg X.N lm X.env.scope ifs = true → ∀ e r, ifs = .cons e r → PT X e.py (tT X.K cA W (evT cl e))) (he : SndE cA cl tab k sg elt)
    (X : Cx) (W : WX) (lm : Lm) (C : EnvOk X cA W cl tab lm k) (h : okE sg X.N lm X.env.scope (.lc elt tg it ifs scope own p) = true) :
    PI X tg.py it.py (tW X.K cA W (evI cl it)) ∧ BlkOk X.N X.env.scope scope own ∧ (∀ (s : Shared) (H : Hp) (C : Addr) (cl' : List (Str × Addr)) (fp : List Addr), PG (X.blk s H scope (compEnvC scope cl' C X.env) fp) tg.py (gT X.K tg)) ∧
      (∀ (s : Shared) (H : Hp) (C : Addr) (cl' : List (Str × Addr)) (fp : List Addr), PTs (X.blk s H scope (compEnvC scope cl' C X.env) fp) ifs.pys (tT X.K cA noW (evF cl ifs))) ∧
      (∀ (s : Shared) (H : Hp) (C : Addr) (cl' : List (Str × Addr)) (fp : List Addr), PE (X.blk s H scope (compEnvC scope cl' C X.env) fp) elt.py (tI X.K cA noW (ev cl elt))) ∧ ∀ i ∈ tg.sl, i ∈ own.map (·.2) := by
  have h' : (okI sg X.N lm X.env.scope it && okE sg X.N none (relS scope X.env.scope) elt && okEs sg X.N none (relS scope X.env.scope) ifs && tg.ok X.N (relS scope X.env.scope) && ownB scope tg && blkC X.N X.env.scope scope own && subB tg.sl (own.map (·.2)) && decide (ifs.len ≤ 1) && (tg.isTup || it.nm)) = true := h
  obtain ⟨h', h9⟩ := and2 h'
  obtain ⟨h', h8⟩ := and2 h'
  obtain ⟨h', h7⟩ := and2 h'
  obtain ⟨h', h6⟩ := and2 h'
  obtain ⟨h', h5⟩ := and2 h'
  obtain ⟨h', h4⟩ := and2 h'
  obtain ⟨h', h3⟩ := and2 h'
  obtain ⟨h1, h2⟩ := and2 h'
  refine ⟨hi X W lm C h1 tg h9, blkOk_by h6, fun s H c cs fp => ?_, fun s H c cs fp => ?_, fun s H c cs fp => ?_, subB_ok h7⟩
  · exact s_tg (X := bk X s H scope c cs fp) C.calm C.nd tg h4 (fn_blk tg h5)
  · exact pts_of (X := bk X s H scope c cs fp) (of_decide_eq_true h8) (hf1 _ noW none (C.bk s H scope c cs fp) h3)
  · exact (he _ noW none (C.bk s H scope c cs fp) h2).1
theorem snd_lc2 {elt : E} {tg tg1 : Tg} {it it1 : It} {ifs ifs1 : Es} {scope : Scope} {own : List (Str × Nat)} {vs1 : List Nat} {p : Pos} (hi : SndI cA cl tab k sg it) (hi1 : SndI cA cl tab k sg it1) (hf1 : ∀ (X : Cx) (W : WX) (lm : Lm), EnvOk X cA W cl tab lm k → okEs sg X.N lm X.env.scope ifs = true → ∀ e r, ifs = .cons e r → PT X e.py (tT X.K cA W (evT cl e)))
    (hf2 : ∀ (X : Cx) (W : WX) (lm : Lm), EnvOk X cA W cl tab lm k → okEs sg X.N lm X.env.scope ifs1 = true → ∀ e r, ifs1 = .cons e r → PT X e.py (tT X.K cA W (evT cl e))) (he : SndE cA cl tab k sg elt)
    (X : Cx) (W : WX) (lm : Lm) (C : EnvOk X cA W cl tab lm k) (h : okE sg X.N lm X.env.scope (.lc2 elt tg it ifs tg1 it1 ifs1 scope own vs1 p) = true) :
    PI X tg.py it.py (tW X.K cA W (evI cl it)) ∧ BlkOk X.N X.env.scope scope own ∧ (∀ (s : Shared) (H : Hp) (C : Addr) (cl' : List (Str × Addr)) (fp : List Addr), PG (X.blk s H scope (compEnvC scope cl' C X.env) fp) tg.py (gT X.K tg)) ∧
      (∀ (s : Shared) (H : Hp) (C : Addr) (cl' : List (Str × Addr)) (fp : List Addr), PTs (X.blk s H scope (compEnvC scope cl' C X.env) fp) ifs.pys (tT X.K cA noW (evF cl ifs))) ∧
      (∀ (s : Shared) (H : Hp) (C : Addr) (cl' : List (Str × Addr)) (fp : List Addr), PI (X.blk s H scope (compEnvC scope cl' C X.env) fp) tg1.py it1.py (tW X.K cA noW (evI cl it1))) ∧
      (∀ (s : Shared) (H : Hp) (C : Addr) (cl' : List (Str × Addr)) (fp : List Addr), PG (X.blk s H scope (compEnvC scope cl' C X.env) fp) tg1.py (gT X.K tg1)) ∧
      (∀ (s : Shared) (H : Hp) (C : Addr) (cl' : List (Str × Addr)) (fp : List Addr), PTs (X.blk s H scope (compEnvC scope cl' C X.env) fp) ifs1.pys (tT X.K cA noW (evF cl ifs1))) ∧
      (∀ (s : Shared) (H : Hp) (C : Addr) (cl' : List (Str × Addr)) (fp : List Addr), PE (X.blk s H scope (compEnvC scope cl' C X.env) fp) elt.py (tI X.K cA noW (ev cl elt))) ∧ (∀ i ∈ tg.sl, i ∈ own.map (·.2)) ∧ (∀ i ∈ tg1.sl, i ∈ vs1) ∧ ∀ i ∈ vs1, i ∈ own.map (·.2) := by
  have h' : (okI sg X.N lm X.env.scope it && okI sg X.N none (relS scope X.env.scope) it1 && okE sg X.N none (relS scope X.env.scope) elt && okEs sg X.N none (relS scope X.env.scope) ifs && okEs sg X.N none (relS scope X.env.scope) ifs1 && tg.ok X.N (relS scope X.env.scope) && tg1.ok X.N (relS scope X.env.scope) && ownB scope tg && ownB scope tg1 && blkC X.N X.env.scope scope own &&
      subB tg.sl (own.map (·.2)) && subB tg1.sl vs1 && subB vs1 (own.map (·.2)) && decide (ifs.len ≤ 1) && decide (ifs1.len ≤ 1) && (tg.isTup || it.nm) && (tg1.isTup || it1.nm)) = true := h
  obtain ⟨h', h17⟩ := and2 h'
  obtain ⟨h', h16⟩ := and2 h'
  obtain ⟨h', h15⟩ := and2 h'
  obtain ⟨h', h14⟩ := and2 h'
  obtain ⟨h', h13⟩ := and2 h'
  obtain ⟨h', h12⟩ := and2 h'
  obtain ⟨h', h11⟩ := and2 h'
  obtain ⟨h', h10⟩ := and2 h'
  obtain ⟨h', h9⟩ := and2 h'
  obtain ⟨h', h8⟩ := and2 h'
  obtain ⟨h', h7⟩ := and2 h'
  obtain ⟨h', h6⟩ := and2 h'
  obtain ⟨h', h5⟩ := and2 h'
  obtain ⟨h', h4⟩ := and2 h'
  obtain ⟨h', h3⟩ := and2 h'
  obtain ⟨h1, h2⟩ := and2 h'
  refine ⟨hi X W lm C h1 tg h16, blkOk_by h10, fun s H c cs fp => ?_, fun s H c cs fp => ?_, fun s H c cs fp => ?_, fun s H c cs fp => ?_, fun s H c cs fp => ?_, fun s H c cs fp => ?_, subB_ok h11, subB_ok h12, subB_ok h13⟩
  · exact s_tg (X := bk X s H scope c cs fp) C.calm C.nd tg h6 (fn_blk tg h8)
  · exact pts_of (X := bk X s H scope c cs fp) (of_decide_eq_true h14) (hf1 _ noW none (C.bk s H scope c cs fp) h4)
  · exact hi1 _ noW none (C.bk s H scope c cs fp) h2 tg1 h17
  · exact s_tg (X := bk X s H scope c cs fp) C.calm C.nd tg1 h7 (fn_blk tg1 h9)
  · exact pts_of (X := bk X s H scope c cs fp) (of_decide_eq_true h15) (hf2 _ noW none (C.bk s H scope c cs fp) h5)
  · exact (he _ noW none (C.bk s H scope c cs fp) h3).1
theorem s_lc {elt : E} {tg : Tg} {it : It} {ifs : Es} {scope : Scope} {own : List (Str × Nat)} {p : Pos} {X : Cx} {W : WX} (C : EnvOk X cA W cl tab lm k)
    (h : PI X tg.py it.py (tW X.K cA W (evI cl it)) ∧ BlkOk X.N X.env.scope scope own ∧ (∀ (s : Shared) (H : Hp) (C : Addr) (cl' : List (Str × Addr)) (fp : List Addr), PG (X.blk s H scope (compEnvC scope cl' C X.env) fp) tg.py (gT X.K tg)) ∧
      (∀ (s : Shared) (H : Hp) (C : Addr) (cl' : List (Str × Addr)) (fp : List Addr), PTs (X.blk s H scope (compEnvC scope cl' C X.env) fp) ifs.pys (tT X.K cA noW (evF cl ifs))) ∧
      (∀ (s : Shared) (H : Hp) (C : Addr) (cl' : List (Str × Addr)) (fp : List Addr), PE (X.blk s H scope (compEnvC scope cl' C X.env) fp) elt.py (tI X.K cA noW (ev cl elt))) ∧ ∀ i ∈ tg.sl, i ∈ own.map (·.2)) :
    PE X (E.lc elt tg it ifs scope own p).py (tI X.K cA W (ev cl (.lc elt tg it ifs scope own p))) := by
  obtain ⟨h1, h2, h3, h4, h5, h6⟩ := h
  exact ⟨fun pins s σ H Q I q => (pe_lc C.calm C.nd h1 h2 h3 h4 h5 (fset_py it X.env)).run pins s σ H Q I (lc_read h6 q)⟩
theorem s_lc2 {elt : E} {tg tg1 : Tg} {it it1 : It} {ifs ifs1 : Es} {scope : Scope} {own : List (Str × Nat)} {vs1 : List Nat} {p : Pos} {X : Cx} {W : WX} (C : EnvOk X cA W cl tab lm k)
    (h : PI X tg.py it.py (tW X.K cA W (evI cl it)) ∧ BlkOk X.N X.env.scope scope own ∧ (∀ (s : Shared) (H : Hp) (C : Addr) (cl' : List (Str × Addr)) (fp : List Addr), PG (X.blk s H scope (compEnvC scope cl' C X.env) fp) tg.py (gT X.K tg)) ∧
      (∀ (s : Shared) (H : Hp) (C : Addr) (cl' : List (Str × Addr)) (fp : List Addr), PTs (X.blk s H scope (compEnvC scope cl' C X.env) fp) ifs.pys (tT X.K cA noW (evF cl ifs))) ∧
      (∀ (s : Shared) (H : Hp) (C : Addr) (cl' : List (Str × Addr)) (fp : List Addr), PI (X.blk s H scope (compEnvC scope cl' C X.env) fp) tg1.py it1.py (tW X.K cA noW (evI cl it1))) ∧
      (∀ (s : Shared) (H : Hp) (C : Addr) (cl' : List (Str × Addr)) (fp : List Addr), PG (X.blk s H scope (compEnvC scope cl' C X.env) fp) tg1.py (gT X.K tg1)) ∧
      (∀ (s : Shared) (H : Hp) (C : Addr) (cl' : List (Str × Addr)) (fp : List Addr), PTs (X.blk s H scope (compEnvC scope cl' C X.env) fp) ifs1.pys (tT X.K cA noW (evF cl ifs1))) ∧
      (∀ (s : Shared) (H : Hp) (C : Addr) (cl' : List (Str × Addr)) (fp : List Addr), PE (X.blk s H scope (compEnvC scope cl' C X.env) fp) elt.py (tI X.K cA noW (ev cl elt))) ∧ (∀ i ∈ tg.sl, i ∈ own.map (·.2)) ∧ (∀ i ∈ tg1.sl, i ∈ vs1) ∧ ∀ i ∈ vs1, i ∈ own.map (·.2)) :
    PE X (E.lc2 elt tg it ifs tg1 it1 ifs1 scope own vs1 p).py (tI X.K cA W (ev cl (.lc2 elt tg it ifs tg1 it1 ifs1 scope own vs1 p))) := by
  obtain ⟨h1, h2, h3, h4, h5, h6, h7, h8, h9, h10, h11⟩ := h
  exact ⟨fun pins s σ H Q I q => (pe_lc2 C.calm C.nd h1 h2 h11 h3 h4 h5 h6 h7 h8 (fset_py it X.env) (fset_py it1)).run pins s σ H Q I (lc2_read h9 h10 q)⟩
theorem lam_env {X : Cx} {W : WX} {lm : Lm} (C : EnvOk X cA W cl tab lm k) {A : Around} {outer : List Env} {s : Shared} {H : Hp} {E : XK} {scope : Scope} {f c' : Addr} (hr : Room k (A.deeper (LamX.lamEnv X scope s.heap.objs.size f c'))) :
    EnvOk (LamX.lamCx X A outer s H E scope f c') cA (fun cls d _ H => E cls d H) cl tab none k :=
  ⟨rfl, C.nd, hr, takes_of rfl rfl rfl rfl, C.nob, C.nor, C.fns, C.kbs, fun _ z => nomatch z⟩
theorem lookup_rp {K : PySem.W.Frag} {A : List Addr} {H : Hp} {f : Str} : ∀ {fs : Fs} {fvs : List (Str × V)} {d : D}, RpF K A H fs fvs → fs.lookup f = some d → ∃ v, fvs.lookup f = some v ∧ Rp K A H d v
  | _, _, _, .nil, e => by cases e
  | (a, x) :: fs, (b, u) :: fvs, d, .cons h r, e => by
    obtain ⟨h1, h2⟩ := h
    have h1 : a = b := h1
    subst h1
    rw [List.lookup_cons] at e ⊢
    cases q : f == a with
    | true => rw [q] at e; cases e; exact ⟨u, rfl, h2⟩
    | false => rw [q] at e; exact lookup_rp r e
theorem s_met {X : Cx} {W : WX} {lm : Lm} (C : EnvOk X cA W cl tab lm k) {hs : List (Str × Str × Str)} {x : Str} {px : Pos} {body : E} {scope : Scope} {lpos p : Pos} (hlm : lm = some (x, hs)) (hg : gloB X.env.scope x = true) (hL : LamX.lamSB X.env.scope scope = true)
    (hb : ∀ (A : Around) (outer : List Env) (s : Shared) (H : Hp) (E : XK) (f c' : Addr), Room k (A.deeper (LamX.lamEnv X scope s.heap.objs.size f c')) → PE (LamX.lamCx X A outer s H E scope f c') body.py (tI X.K cA (fun cls d _ H => E cls d H) (ev cl body))) :
    PE X (E.met hs x px body scope lpos p).py (tI X.K cA W (ev cl (.met hs x px body scope lpos p))) := by
  have L := C.lam _ hlm
  obtain ⟨c, P, hcode, TB, hm, hu⟩ := L.tabl
  obtain ⟨g, pg, bg, sg, dV, kV, doc, pm, cdv, ct, oc, an, od, osl, Ng, a, e1, e2, e3, e4, e5, e6, e7, e8, e9, e10, e11⟩ := L.fn
  have main := LamX.pe_lamcall (T := Tb.t) (p := px) (lpos := lpos) (pos := p) (params := noArgs) (body := body.py) (scope := scope) (t := fun E => tI X.K cA (fun cls d _ H => E cls d H) (ev cl body)) (gloB_ok hg).1 e1 e2 e3 e4 e5 e6 e7 e8 e9 TB hcode hm hu L.room (LamX.lamS_by hL) rfl (fun _ _ _ _ _ => rfl) hb (gloB_ok hg).2 e10 e11
  refine ⟨fun pins s σ H Q I ⟨A, g0, δ, r, l, q⟩ => main.run pins s σ H Q I ⟨r.tabs, fun H1 eN T1 => ?_⟩⟩
  obtain ⟨r1, n1⟩ := r.ext eN T1
  show tI X.K cA _ (ev cl body) σ H1 _
  have q' : (metD hs (ev cl body δ g0)).sat (GoD X.K A H Q) (XP X.K cA W A H σ) := q
  refine ⟨A, g0, δ, r1, l.nx n1, ?_⟩
  cases e : ev cl body δ g0 with
  | bad => rw [e] at q'; exact q'
  | ok d g' =>
    rw [e] at q'
    have q2 : GoD X.K A H Q (.tup [.str "told", d]) g' := q'
    intro A2 H2 v n2 r2 rv p0 hp
    exact new_tup r2 (.cons (.str _) (.cons rv .nil)) (GoD.nx (n1.trans n2) q2) p0 hp
  | ex c fs g' =>
    rw [e] at q'
    have q2 : (match hs.lookup c with
      | some (tag, fld) => (match fs.lookup fld with
        | some d => .ok (.tup [.str tag, d]) g'
        | none => .bad)
      | none => .bad : R D).sat (GoD X.K A H Q) (XP X.K cA W A H σ) := q'
    split at q2
    · rename_i tag fld e1
      split at q2
      · rename_i d e2
        intro A2 H2 dd fvs n2 r2 hx rf
        obtain ⟨v, e3, rv⟩ := lookup_rp rf e2
        exact ⟨c, tag, fld, e1, rfl, dd, fvs, v, rfl, hx, e3, fun p0 hp => new_tup r2 (.cons (.str _) (.cons rv .nil)) (GoD.nx (n1.trans n2) q2) p0 hp⟩
      · exact absurd q2 id
    · exact absurd q2 id
mutual
theorem snd_E (HS : TabOk sg tab) : ∀ e : E, SndE cA cl tab k sg e
  | .var i x p => fun X W lm C h => by
    have h' : (decide (X.N[i]? = some x) && visB X.env.scope x && !(x == ("__debug__" : Str)) && !(x == ("__classdict__" : Str))) = true := h
    obtain ⟨h', h4⟩ := and2 h'
    obtain ⟨h', h3⟩ := and2 h'
    obtain ⟨h1, h2⟩ := and2 h'
    have q := s_var (cA := cA) (W := W) (cl := cl) (p := p) (of_decide_eq_true h1) h2 (by simpa using h3) (by simpa using h4)
    exact ⟨q, t_val (m := fun δ g => ofO (δ[i]?).join g) q fun _ => rfl⟩
  | .typ b p => fun X W lm C h => by
    obtain ⟨h1, h2⟩ := and2 (show (gloB X.env.scope b.nm && b.isTy) = true from h)
    exact ⟨s_typ C h1 h2, t_none⟩
  | .num i j p => fun X W lm C h => ⟨s_const pe_int fun _ _ => .int i, t_none⟩
  | .txt x j p => fun X W lm C h => ⟨s_const pe_str fun _ _ => .str x, t_none⟩
  | .boo b j p => fun X W lm C h => ⟨s_const pe_bl fun _ _ => .bl b, t_val (m := fun _ g => .ok (.bl b) g) (s_const pe_bl fun _ _ => .bl b) fun _ => rfl⟩
  | .non j p => fun X W lm C h => ⟨s_const pe_non fun _ _ => .non, t_none⟩
  | .bin op a b p => fun X W lm C h => by
    obtain ⟨h1, h2⟩ := and2 (show (okE sg X.N lm X.env.scope a && okE sg X.N lm X.env.scope b) = true from h)
    exact ⟨s_bin (snd_E HS a X W lm C h1).1 (snd_E HS b X W lm C h2).1, t_none⟩
  | .neg a p => fun X W lm C h => ⟨s_neg (snd_E HS a X W lm C h).1, t_none⟩
  | .nt a p => fun X W lm C h => ⟨s_nt (snd_E HS a X W lm C h).1, t_nt (snd_E HS a X W lm C h).2⟩
  | .bop b es p => fun X W lm C h => by
    obtain ⟨h1, h2⟩ := and2 (show (okEs sg X.N lm X.env.scope es && !es.isNil) = true from h)
    have q := (snd_Es HS es X W lm C h1).2.2 b p (by simpa using h2)
    exact ⟨q.1, q.2.pt⟩
  | .ife c a b p => fun X W lm C h => by
    obtain ⟨h', h3⟩ := and2 (show (okE sg X.N lm X.env.scope c && okE sg X.N lm X.env.scope a && okE sg X.N lm X.env.scope b) = true from h)
    obtain ⟨h1, h2⟩ := and2 h'
    exact ⟨s_ife (snd_E HS c X W lm C h1).2 (snd_E HS a X W lm C h2).1 (snd_E HS b X W lm C h3).1, t_none⟩
  | .cmp op a b p => fun X W lm C h => by
    obtain ⟨h1, h2⟩ := and2 (show (okE sg X.N lm X.env.scope a && okE sg X.N lm X.env.scope b) = true from h)
    exact ⟨s_cmp C (snd_E HS a X W lm C h1).1 (snd_E HS b X W lm C h2).1, t_cmp C (snd_E HS a X W lm C h1).1 (snd_E HS b X W lm C h2).1⟩
  | .idx a i p => fun X W lm C h => by
    obtain ⟨h1, h2⟩ := and2 (show (okE sg X.N lm X.env.scope a && okE sg X.N lm X.env.scope i) = true from h)
    have q := s_idx (p := p) C (snd_E HS a X W lm C h1).1 (snd_E HS i X W lm C h2).1
    refine ⟨q, ⟨fun pins s σ H Q I z => (t_val q fun _ => rfl).run pins s σ H Q I ?_⟩⟩
    obtain ⟨A, g, δ, r, l, z⟩ := z
    refine ⟨A, g, δ, r, l, ?_⟩
    have z' : ((ev cl a δ g).bind fun x g1 => (ev cl i δ g1).bind fun y g2 => (dIdx x y g2).bind fun z g3 => truR z g3).sat (fun b g' => ∀ A' H', Nx A H A' H' → Rel X.K A' g' H' → Q b H') (XP X.K cA W A H σ) := z
    show (((ev cl a δ g).bind fun x g1 => (ev cl i δ g1).bind fun y g2 => dIdx x y g2).bind fun x g1 => truR x g1).sat _ _
    simp only [R.sat_bind] at z' ⊢
    exact z'
  | .slc a lo hi p2 p => fun X W lm C h => by
    obtain ⟨h', h3⟩ := and2 (show (okE sg X.N lm X.env.scope a && okO sg X.N lm X.env.scope lo && okO sg X.N lm X.env.scope hi) = true from h)
    obtain ⟨h1, h2⟩ := and2 h'
    exact ⟨s_slc (snd_E HS a X W lm C h1).1 (snd_O HS lo X W lm C h2) (snd_O HS hi X W lm C h3), t_none⟩
  | .tup es j p => fun X W lm C h => ⟨s_tup (snd_Es HS es X W lm C h).1, t_none⟩
  | .lst es p => fun X W lm C h => ⟨s_lst (snd_Es HS es X W lm C h).1, t_none⟩
  | .dct kvs p => fun X W lm C h => by
    obtain ⟨h', h3⟩ := and2 (show (okEs sg X.N lm X.env.scope kvs && kvs.even && decide (kvs.len ≤ 15)) = true from h)
    obtain ⟨h1, h2⟩ := and2 h'
    exact ⟨s_dct h2 (of_decide_eq_true h3) (snd_Es HS kvs X W lm C h1).2.1, t_none⟩
  | .blt b px es p => fun X W lm C h => by
    obtain ⟨h', h3⟩ := and2 (show (okEs sg X.N lm X.env.scope es && gloB X.env.scope b.nm && !es.isNil) = true from h)
    obtain ⟨h1, h2⟩ := and2 h'
    have pa := (snd_Es HS es X W lm C h1).1
    cases es with
    | nil => exact absurd h3 (by decide)
    | cons e r =>
      have q := s_blt (px := px) (p := p) C h2 pa
      refine ⟨q, ⟨fun pins s σ H Q I z => (t_val q fun _ => rfl).run pins s σ H Q I ?_⟩⟩
      obtain ⟨A, g, δ, rr, l, z⟩ := z
      refine ⟨A, g, δ, rr, l, ?_⟩
      have z' : ((evs cl (.cons e r) δ g).bind fun xs g1 => (bltD b xs g1).bind fun x g2 => truR x g2).sat (fun b g' => ∀ A' H', Nx A H A' H' → Rel X.K A' g' H' → Q b H') (XP X.K cA W A H σ) := z
      show (((evs cl (.cons e r) δ g).bind fun xs g1 => bltD b xs g1).bind fun x g1 => truR x g1).sat _ _
      simp only [R.sat_bind] at z' ⊢
      exact z'
  | .call f x px es p => fun X W lm C h => by
    obtain ⟨h', h3⟩ := and2 (show (okEs sg X.N lm X.env.scope es && gloB X.env.scope x && sigB sg f x es.len) = true from h)
    obtain ⟨h1, h2⟩ := and2 h'
    unfold sigB at h3
    split at h3
    · rename_i q0 eq
      obtain ⟨h4, h5⟩ := and2 h3
      obtain ⟨F, f1, f2, f3, f4⟩ := HS f q0 eq
      have ex : F.x = x := f2.trans (of_decide_eq_true h4)
      subst ex
      have q := s_call (px := px) (p := p) C f1 h2 ((of_decide_eq_true h5).symm.trans f3.symm) (snd_Es HS es X W lm C h1).1
      refine ⟨q, ⟨fun pins s σ H Q I z => (t_val q fun _ => rfl).run pins s σ H Q I ?_⟩⟩
      obtain ⟨A, g, δ, rr, l, z⟩ := z
      refine ⟨A, g, δ, rr, l, ?_⟩
      have z' : ((evs cl es δ g).bind fun xs g1 => (cl f xs g1).bind fun x g2 => truR x g2).sat (fun b g' => ∀ A' H', Nx A H A' H' → Rel X.K A' g' H' → Q b H') (XP X.K cA W A H σ) := z
      show (((evs cl es δ g).bind fun xs g1 => cl f xs g1).bind fun x g1 => truR x g1).sat _ _
      simp only [R.sat_bind] at z' ⊢
      exact z'
    · cases h3
  | .callK f x px ks idx vs p => fun X W lm C h => by
    obtain ⟨h', h4⟩ := and2 (show (okEs sg X.N lm X.env.scope vs && gloB X.env.scope x && kssB sg f x (ks.map (·.1)) idx && decide (ks.length = vs.len)) = true from h)
    obtain ⟨h', h3⟩ := and2 h'
    obtain ⟨h1, h2⟩ := and2 h'
    unfold kssB at h3
    split at h3
    · rename_i q0 eq
      obtain ⟨h5, h6⟩ := and2 h3
      obtain ⟨F, f1, f2, f3, f4⟩ := HS f q0 eq
      have ex : F.x = x := f2.trans (of_decide_eq_true h5)
      subst ex
      exact ⟨s_callK C f1 h2 (by rw [f4]; exact of_decide_eq_true h6) (of_decide_eq_true h4) (snd_Es HS vs X W lm C h1).2.1, t_none⟩
    · cases h3
  | .mth m o pa es p => fun X W lm C h => by
    obtain ⟨h', h6⟩ := and2 (show (okE sg X.N lm X.env.scope o && okEs sg X.N lm X.env.scope es && rcvB o && (pa.endLine == p.line) && decide (es.len < 20) && !es.isNil) = true from h)
    obtain ⟨h', h5⟩ := and2 h'
    obtain ⟨h', h4⟩ := and2 h'
    obtain ⟨h', h3⟩ := and2 h'
    obtain ⟨h1, h2⟩ := and2 h'
    have qa := (snd_Es HS es X W lm C h2).1
    have qo := (snd_E HS o X W lm C h1).1
    cases es with
    | nil => exact absurd h6 (by decide)
    | cons e r => exact ⟨s_mth C h3 h4 (of_decide_eq_true h5) qo qa, t_none⟩
  | .get o pa e d p => fun X W lm C h => by
    obtain ⟨h', h5⟩ := and2 (show (okE sg X.N lm X.env.scope o && okE sg X.N lm X.env.scope e && okE sg X.N lm X.env.scope d && rcvB o && (pa.endLine == p.line)) = true from h)
    obtain ⟨h', h4⟩ := and2 h'
    obtain ⟨h', h3⟩ := and2 h'
    obtain ⟨h1, h2⟩ := and2 h'
    exact ⟨s_get C h4 h5 (snd_E HS o X W lm C h1).1 (snd_E HS e X W lm C h2).1 (snd_E HS d X W lm C h3).1, t_none⟩
  | .lc elt tg it ifs scope own p => fun X W lm C h => ⟨s_lc C (snd_lc (snd_I HS it) (snd_Es HS ifs) (snd_F HS ifs) (snd_E HS elt) X W lm C h), t_none⟩
  | .lc2 elt tg it ifs tg1 it1 ifs1 scope own vs1 p => fun X W lm C h => ⟨s_lc2 C (snd_lc2 (snd_I HS it) (snd_I HS it1) (snd_F HS ifs) (snd_F HS ifs1) (snd_E HS elt) X W lm C h), t_none⟩
  | .met hs x px body scope lpos p => fun X W lm C h => by
    obtain ⟨h', h4⟩ := and2 (show (okE sg X.N none scope body && LamX.lamSB X.env.scope scope && gloB X.env.scope x && decide (lm = some (x, hs))) = true from h)
    obtain ⟨h', h3⟩ := and2 h'
    obtain ⟨h1, h2⟩ := and2 h'
    exact ⟨s_met C (of_decide_eq_true h4) h3 h2 fun A outer s H E f c' hr => (snd_E HS body _ _ none (lam_env C (E := E) (H := H) (outer := outer) hr) h1).1, t_none⟩
theorem snd_Es (HS : TabOk sg tab) : ∀ es : Es, SndEs cA cl tab k sg es
  | .nil => fun X W lm C h => ⟨s_anil, trivial, fun b p z => by cases z⟩
  | .cons e r => fun X W lm C h => by
    obtain ⟨h1, h2⟩ := and2 (show (okE sg X.N lm X.env.scope e && okEs sg X.N lm X.env.scope r) = true from h)
    obtain ⟨a1, a2⟩ := snd_E HS e X W lm C h1
    obtain ⟨b1, b2, b3⟩ := snd_Es HS r X W lm C h2
    refine ⟨s_acons a1 b1, ⟨a1, b2⟩, fun b p z => ?_⟩
    cases r with
    | nil => exact ⟨s_bop1 a1, t_bop1 a2⟩
    | cons e2 r2 =>
      obtain ⟨c1, c2⟩ := b3 b p rfl
      exact ⟨s_bopc a1 c1, t_bopc a2 c2⟩
theorem snd_F (HS : TabOk sg tab) : ∀ ifs : Es, ∀ (X : Cx) (W : WX) (lm : Lm), EnvOk X cA W cl tab lm k → okEs sg X.N lm X.env.scope ifs = true → ∀ e r, ifs = .cons e r → PT X e.py (tT X.K cA W (evT cl e))
  | .nil => fun X W lm C h e r z => by cases z
  | .cons e r => fun X W lm C h e' r' z => by
    obtain ⟨h1, h2⟩ := and2 (show (okE sg X.N lm X.env.scope e && okEs sg X.N lm X.env.scope r) = true from h)
    cases z
    exact (snd_E HS e X W lm C h1).2
theorem snd_O (HS : TabOk sg tab) : ∀ o : Oe, SndO cA cl tab k sg o
  | .none => fun X W lm C h => s_onone
  | .some e => fun X W lm C h => s_osome (snd_E HS e X W lm C h).1
theorem snd_I (HS : TabOk sg tab) : ∀ it : It, SndI cA cl tab k sg it
  | .seq e => fun X W lm C h t _ => s_seq (snd_E HS e X W lm C h).1
  | .rng1 px a p => fun X W lm C h t _ => by
    obtain ⟨h1, h2⟩ := and2 (show (okE sg X.N lm X.env.scope a && gloB X.env.scope "range") = true from h)
    exact s_rng1 C h2 (s_acons (es := .nil) (snd_E HS a X W lm C h1).1 s_anil)
  | .rng2 px a b p => fun X W lm C h t _ => by
    obtain ⟨h', h3⟩ := and2 (show (okE sg X.N lm X.env.scope a && okE sg X.N lm X.env.scope b && gloB X.env.scope "range") = true from h)
    obtain ⟨h1, h2⟩ := and2 h'
    exact s_rng2 C h3 (s_acons (es := .cons b .nil) (snd_E HS a X W lm C h1).1 (s_acons (es := .nil) (snd_E HS b X W lm C h2).1 s_anil))
  | .zip px a b p => fun X W lm C h t ht => by
    obtain ⟨h', h3⟩ := and2 (show (okE sg X.N lm X.env.scope a && okE sg X.N lm X.env.scope b && gloB X.env.scope "zip") = true from h)
    obtain ⟨h1, h2⟩ := and2 h'
    have ht' : t.isTup = true := by simpa [It.nm] using ht
    obtain ⟨elts, kk, tpos, et⟩ := tup_py ht'
    rw [et]
    exact s_zip C h3 (s_acons (es := .cons b .nil) (snd_E HS a X W lm C h1).1 (s_acons (es := .nil) (snd_E HS b X W lm C h2).1 s_anil))
  | .enm px a p => fun X W lm C h t ht => by
    obtain ⟨h1, h2⟩ := and2 (show (okE sg X.N lm X.env.scope a && gloB X.env.scope "enumerate") = true from h)
    have ht' : t.isTup = true := by simpa [It.nm] using ht
    obtain ⟨elts, kk, tpos, et⟩ := tup_py ht'
    rw [et]
    exact s_enm C h2 (s_acons (es := .nil) (snd_E HS a X W lm C h1).1 s_anil)
end
end
end PD
set_option Elab.async false
set_option linter.all false
set_option maxRecDepth 100000
set_option maxHeartbeats 4000000
/-! PD13: statements. -/
namespace PD
open PySem PySem.Spec PyProof.Rows L2
variable [Tb]
mutual
inductive S where
  | asg (i : Nat) (x : Str) (px : Pos) (e : E) (p : Pos)
  | par2 (i j : Nat) (x y : Str) (px py pt : Pos) (kt : Nat) (a b : E) (k2 : Nat) (pt2 p : Pos)
  | par3 (i j l : Nat) (x y z : Str) (px py pz pt : Pos) (kt : Nat) (a b c : E) (k2 : Nat) (pt2 p : Pos)
  | unp (tg : Tg) (e : E) (p : Pos)
  | rse (x : Str) (px : Pos) (f : Str) (e : E) (p1 p : Pos)
  | put (o i v : E) (p' p : Pos)
  | aug (i : Nat) (x : Str) (px : Pos) (op : Operator) (e : E) (p : Pos)
  | exp (e : E) (p : Pos)
  | ret (e : E) (p : Pos)
  | ifs (c : E) (a b : Ss) (p : Pos)
  | whl (c : E) (a : Ss) (p : Pos)
  | forr (tg : Tg) (it : It) (a : Ss) (p : Pos)
  | pas (p : Pos)
inductive Ss where
  | nil
  | cons (s : S) (r : Ss)
end
mutual
def S.py : S → PySem.Stmt
  | .asg _ x px e p => .Assign [.Name x px] e.py p
  | .par2 _ _ x y px py pt kt a b k2 pt2 p => .Assign [.Tuple [.Name x px, .Name y py] kt pt] (.Tuple [a.py, b.py] k2 pt2) p
  | .par3 _ _ _ x y z px py pz pt kt a b c k2 pt2 p => .Assign [.Tuple [.Name x px, .Name y py, .Name z pz] kt pt] (.Tuple [a.py, b.py, c.py] k2 pt2) p
  | .rse x px _ e p1 p => .Raise (some (.Call (.Name x px) [e.py] [] p1)) none p
  | .unp tg e p => .Assign [tg.py] e.py p
  | .put o i v p' p => .Assign [.Subscript o.py i.py p'] v.py p
  | .aug _ x px op e p => .AugAssign (.Name x px) op e.py p
  | .exp e p => .Expr e.py p
  | .ret e p => .Return (some e.py) p
  | .ifs c a b p => .If c.py a.pys b.pys p
  | .whl c a p => .While c.py a.pys [] p
  | .forr tg it a p => .For tg.py it.py a.pys [] p
  | .pas p => .Pass p
def Ss.pys : Ss → List PySem.Stmt
  | .nil => []
  | .cons s r => s.py :: r.pys
end
/-- how a statement ends -/
inductive SR where
  | nx (δ : Sl) (g : G) | rt (d : D) (g : G) | ex (c : Str) (fs : Fs) (δ : Sl) (g : G) | bad
def R.toS {β : Type} (r : R β) (δ : Sl) (f : β → G → SR) : SR := match r with
  | .ok a g => f a g
  | .ex c fs g => .ex c fs δ g
  | .bad => .bad
def SR.sat (r : SR) (Qn : Sl → G → Prop) (Qr : D → G → Prop) (E' : Str → Fs → Sl → G → Prop) : Prop := match r with
  | .nx δ g => Qn δ g
  | .rt d g => Qr d g
  | .ex c fs δ g => E' c fs δ g
  | .bad => False
theorem toS_sat {β : Type} {r : R β} {δ : Sl} {f : β → G → SR} {Qn : Sl → G → Prop} {Qr : D → G → Prop} {E' : Str → Fs → Sl → G → Prop} : (r.toS δ f).sat Qn Qr E' ↔ r.sat (fun a g => (f a g).sat Qn Qr E') (fun c fs g => E' c fs δ g) := by
  cases r <;> exact Iff.rfl
theorem SR.sat_mono {r : SR} {Qn Qn' : Sl → G → Prop} {Qr Qr' : D → G → Prop} {E' E2 : Str → Fs → Sl → G → Prop} (h : r.sat Qn Qr E') (h1 : ∀ δ g, Qn δ g → Qn' δ g) (h2 : ∀ d g, Qr d g → Qr' d g) (h3 : ∀ c fs δ g, E' c fs δ g → E2 c fs δ g) : r.sat Qn' Qr' E2 := by
  cases r with
  | nx δ g => exact h1 δ g h
  | rt d g => exact h2 d g h
  | ex c fs δ g => exact h3 c fs δ g h
  | bad => exact h
def SR.seq (r : SR) (f : Sl → G → SR) : SR := match r with
  | .nx δ g => f δ g
  | r => r
theorem seq_sat {r : SR} {f : Sl → G → SR} {Qn : Sl → G → Prop} {Qr : D → G → Prop} {E' : Str → Fs → Sl → G → Prop} : (r.seq f).sat Qn Qr E' ↔ r.sat (fun δ g => (f δ g).sat Qn Qr E') Qr E' := by
  cases r <;> exact Iff.rfl
/-- o[i] = v -/
def putR (o i v : D) (g : G) : R Unit := match o with
  | .ref n => (match g[n]? with
    | some (.lst ds) => (match i with
      | .int k => (match ixN ds.length k with
        | some j => .ok () (g.set n (.lst (ds.set j v)))
        | none => .bad)
      | _ => .bad)
    | some (.dic kvs) => (match keyD i with
      | some k => if kvs.length < sizeLine then .ok () (g.set n (.dic (putD kvs k v))) else .bad
      | none => .bad)
    | _ => .bad)
  | _ => .bad
def smallB (i j : Int) : Bool := (decide (-(2 ^ 64) < i) && decide (i < 2 ^ 64)) || (decide (-(2 ^ 64) < j) && decide (j < 2 ^ 64))
def augD (op : Operator) (x y : D) (g : G) : R D := match op with
  | .Add => (match x, y with
    | .int i, .int j => .ok (.int (i + j)) g
    | _, _ => .bad)
  | .Sub => (match x, y with
    | .int i, .int j => .ok (.int (i - j)) g
    | _, _ => .bad)
  | .Mult => (match x, y with
    | .int i, .int j => if smallB i j then .ok (.int (i * j)) g else .bad
    | _, _ => .bad)
  | _ => .bad
def whileS (c : Sl → G → R Bool) (body : Sl → G → SR) : Nat → Sl → G → SR
  | 0, _, _ => .bad
  | m + 1, δ, g => (c δ g).toS δ fun b g1 => if b then (body δ g1).seq fun δ2 g2 => whileS c body m δ2 g2 else .nx δ g1
def forS (w : Wk) (tg : Tg) (body : Sl → G → SR) : Nat → Nat → Sl → G → SR
  | 0, _, _, _ => .bad
  | m + 1, i, δ, g => match w i g with
    | none => .bad
    | some none => .nx δ g
    | some (some d) => (match tg.put g d δ with
      | some δ1 => (body δ1 g).seq fun δ2 g2 => forS w tg body m (i + 1) δ2 g2
      | none => .bad)
section
variable (cl : Nat → List D → G → R D)
mutual
def exe : S → Sl → G → SR
  | .asg i _ _ e _, δ, g => (ev cl e δ g).toS δ fun d g1 => .nx (δ.set i (some d)) g1
  | .par2 i j _ _ _ _ _ _ a b _ _ _, δ, g => (ev cl a δ g).toS δ fun x g1 => (ev cl b δ g1).toS δ fun y g2 => .nx ((δ.set i (some x)).set j (some y)) g2
  | .par3 i j l _ _ _ _ _ _ _ _ a b c _ _ _, δ, g => (ev cl a δ g).toS δ fun x g1 => (ev cl b δ g1).toS δ fun y g2 => (ev cl c δ g2).toS δ fun z g3 => .nx (((δ.set i (some x)).set j (some y)).set l (some z)) g3
  | .rse x _ f e _ _, δ, g => (ev cl e δ g).toS δ fun d g1 => .ex x [(f, d)] δ g1
  | .unp tg e _, δ, g => (ev cl e δ g).toS δ fun d g1 => (match tg.put g1 d δ with
    | some δ1 => .nx δ1 g1
    | none => .bad)
  | .put o i v _ _, δ, g => (ev cl v δ g).toS δ fun z g1 => (ev cl o δ g1).toS δ fun x g2 => (ev cl i δ g2).toS δ fun y g3 => (putR x y z g3).toS δ fun _ g4 => .nx δ g4
  | .aug i _ _ op e _, δ, g => (match (δ[i]?).join with
    | some x => (ev cl e δ g).toS δ fun y g1 => (augD op x y g1).toS δ fun z g2 => .nx (δ.set i (some z)) g2
    | none => .bad)
  | .exp e _, δ, g => (ev cl e δ g).toS δ fun _ g1 => .nx δ g1
  | .ret e _, δ, g => (ev cl e δ g).toS δ fun d g1 => .rt d g1
  | .ifs c a b _, δ, g => (evT cl c δ g).toS δ fun k g1 => if k then exes a δ g1 else exes b δ g1
  | .whl c a _, δ, g => whileS (evT cl c) (exes a) FUEL δ g
  | .forr tg it a _, δ, g => (evI cl it δ g).toS δ fun w g1 => forS w tg (exes a) FUEL 0 δ g1
  | .pas _, δ, g => .nx δ g
def exes : Ss → Sl → G → SR
  | .nil, δ, g => .nx δ g
  | .cons s r, δ, g => (exe s δ g).seq fun δ1 g1 => exes r δ1 g1
end
end
/-! ### readings -/
section
variable (K : PySem.W.Frag) (cA : Str → Addr) (W : WX)
abbrev GoN (A : List Addr) (H : Hp) (Qn : L2.St → Hp → Prop) : Sl → G → Prop := fun δ' g' => ∀ A' H' σ', Nx A H A' H' → Rel K A' g' H' → LcR K A' H' δ' σ' → Qn σ' H'
abbrev XS (A : List Addr) (H : Hp) : Str → Fs → Sl → G → Prop := fun c fs δ' g' => ∀ A' H' σ' dd fvs, Nx A H A' H' → Rel K A' g' H' → LcR K A' H' δ' σ' → H' dd = some (.xd fvs) → RpF K A' H' fs fvs → W (.ref (cA c)) (some dd) σ' H'
def tS (m : Sl → G → SR) : TS := fun D σ H => ∃ A g δ, Rel K A g H ∧ LcR K A H δ σ ∧ (m δ g).sat (GoN K A H D.nx) (GoD K A H D.rt) (XS K cA W A H)
end
section
variable {K : PySem.W.Frag} {cA : Str → Addr} {W : WX} {A A1 : List Addr} {H H1 : Hp} {σ : L2.St} {δ : Sl} {g : G}
theorem GoN.nx {Qn : L2.St → Hp → Prop} (x : Nx A H A1 H1) (h : GoN K A H Qn δ g) : GoN K A1 H1 Qn δ g := fun A' H' σ' n => h A' H' σ' (x.trans n)
theorem XS.nx {c : Str} {fs : Fs} (x : Nx A H A1 H1) (h : XS K cA W A H c fs δ g) : XS K cA W A1 H1 c fs δ g := fun A' H' σ' dd fvs n => h A' H' σ' dd fvs (x.trans n)
/-- an expression's exception at the slots as they are -/
theorem XS.xp {c : Str} {fs : Fs} (l : LcR K A H δ σ) (h : XS K cA W A H c fs δ g) : XP K cA W A H σ c fs g := fun A' H' dd fvs n r e f => h A' H' σ dd fvs n r (l.nx n) e f
theorem SR.nxm {D : Ends} {r : SR} (x : Nx A H A1 H1) (h : r.sat (GoN K A H D.nx) (GoD K A H D.rt) (XS K cA W A H)) : r.sat (GoN K A1 H1 D.nx) (GoD K A1 H1 D.rt) (XS K cA W A1 H1) :=
  SR.sat_mono h (fun _ _ => GoN.nx x) (fun _ _ => GoD.nx x) fun _ _ _ _ => XS.nx x
/-- an expression, then the rest of the statement -/
theorem tS_expr {m : Sl → G → R D} {f : D → Sl → G → SR} {D : Ends} {R2' : V → Hp → Prop} (h : tS K cA W (fun δ g => (m δ g).toS δ fun x g1 => f x δ g1) D σ H)
    (hn : ∀ A g δ x v H', Rel K A g H' → LcR K A H' δ σ → Rp K A H' x v → (f x δ g).sat (GoN K A H' D.nx) (GoD K A H' D.rt) (XS K cA W A H') → R2' v H') : tI K cA W m σ H R2' := by
  obtain ⟨A, g, δ, r, l, h⟩ := h
  rw [toS_sat] at h
  exact ⟨A, g, δ, r, l, R.sat_mono h (fun x g1 q A1 H1 v n r1 rv => hn A1 g1 δ x v H1 r1 (l.nx n) rv (SR.nxm n q)) fun _ _ _ e => XS.xp l e⟩
end
/-- what a class's __init__(self, one) does: the one field set -/
def spX (C : Addr) (f : Str) : Sp := fun vs H Q _ => ∃ a v, vs = [.ref a, v] ∧ H a = some (exo a C none) ∧ ∀ dx, H dx = none → dx ≠ a → Q .non (upd (upd H dx (exd dx [(f, v)])) a (exo a C (some dx)))
/-- an exception's class that may be raised -/
structure ExcI (X : Cx) (cA : Str → Addr) (k : Nat) (x f : Str) : Prop where
  cls : OexC X.K (cA x)
  mg : X.mg x = some (.ref (cA x))
  ini : ∃ fI fd ps j, PySem.W.findIn X.K (.ref (cA x)) "__init__" = some (some (.ref fI)) ∧ PySem.W.typeIn X.K (.ref fI) = some (.type "function") ∧ FnOk X.prog X.w X.K X.mg X.base (L2.CX X.prog X.w) j fI fd ps (spX (cA x) f) ∧ Binds X.K fd ps [] ∧ j + 1 ≤ k
structure EnvS (X : Cx) (cA : Str → Addr) (W : WX) (cl : Nat → List D → G → R D) (tab : Nat → Option FnI) (lm : Lm) (sx : Str → Option Str) (k : Nat) : Prop where
  env : EnvOk X cA W cl tab lm k
  pas : PassesOwn (model X.prog X.w) X.A X.env X.xe
  fn : ∀ x, X.fn x = true
  exs : ∀ x f, sx x = some f → ExcI X cA k x f
section
variable {X : Cx} {cA : Str → Addr} {W : WX} {cl : Nat → List D → G → R D} {tab : Nat → Option FnI} {lm : Lm} {sx : Str → Option Str} {k : Nat}
theorem s_nil : PSs X [] (tS X.K cA W (exes cl .nil)) := ⟨fun pins s σ H D I ⟨A, g, δ, r, l, q⟩ => pss_nil.run pins s σ H D I (q A H σ (Nx.refl _ _) r l)⟩
theorem s_cons {s : S} {r : Ss} (h1 : PS X s.py (tS X.K cA W (exe cl s))) (h2 : PSs X r.pys (tS X.K cA W (exes cl r))) : PSs X (s.py :: r.pys) (tS X.K cA W (exes cl (.cons s r))) := by
  refine ⟨fun pins st σ H D I ⟨A, g, δ, rr, l, q⟩ => (pss_cons h1 h2).run pins st σ H D I ?_⟩
  have q' : ((exe cl s δ g).seq fun δ1 g1 => exes cl r δ1 g1).sat (GoN X.K A H D.nx) (GoD X.K A H D.rt) (XS X.K cA W A H) := q
  rw [seq_sat] at q'
  exact ⟨A, g, δ, rr, l, SR.sat_mono q' (fun δ1 g1 q1 A1 H1 σ1 n1 r1 l1 => ⟨A1, g1, δ1, r1, l1, SR.nxm n1 q1⟩) (fun _ _ z => z) fun _ _ _ _ z => z⟩
def E.isLc : E → Bool
  | .lc _ _ _ _ _ _ _ => true
  | .lc2 _ _ _ _ _ _ _ _ _ _ _ => true
  | _ => false
theorem sw_plain {e : E} (h : e.isLc = false) (t : Option PySem.Expr) (n : Nat) (env : Env) : swapsWith e.py t n env = pure false := by
  cases e <;> first | rfl | exact absurd (show true = false from h) Bool.noConfusion
theorem s_ret {e : E} {p : Pos} (h : PE X e.py (tI X.K cA W (ev cl e))) : PS X (S.ret e p).py (tS X.K cA W (exe cl (.ret e p))) :=
  ⟨fun pins s σ H D I q => (ps_ret h).run pins s σ H D I (tS_expr (f := fun x δ g1 => .rt x g1) q fun A g δ x v H' r l rv q1 => q1 A H' v (Nx.refl _ _) r rv)⟩
theorem s_exp {e : E} {p : Pos} (hl : e.isLc = false) (h : PE X e.py (tI X.K cA W (ev cl e))) : PS X (S.exp e p).py (tS X.K cA W (exe cl (.exp e p))) :=
  ⟨fun pins s σ H D I q => (ps_expr h (sw_plain hl none p.line X.env)).run pins s σ H D I (tS_expr (f := fun x δ g1 => .nx δ g1) q fun A g δ x v H' r l rv q1 => q1 A H' σ (Nx.refl _ _) r l)⟩
theorem s_pas {p : Pos} : PS X (S.pas p).py (tS X.K cA W (exe cl (.pas p))) := ⟨fun pins s σ H D I ⟨A, g, δ, r, l, q⟩ => ps_pass.run pins s σ H D I (q A H σ (Nx.refl _ _) r l)⟩
theorem s_ifs {c : E} {a b : Ss} {p : Pos} (hc : PT X c.py (tT X.K cA W (evT cl c))) (ha : PSs X a.pys (tS X.K cA W (exes cl a))) (hb : PSs X b.pys (tS X.K cA W (exes cl b))) : PS X (S.ifs c a b p).py (tS X.K cA W (exe cl (.ifs c a b p))) := by
  refine ⟨fun pins s σ H D I ⟨A, g, δ, r, l, q⟩ => (ps_if hc ha hb).run pins s σ H D I ?_⟩
  have q' : ((evT cl c δ g).toS δ fun k g1 => if k then exes cl a δ g1 else exes cl b δ g1).sat (GoN X.K A H D.nx) (GoD X.K A H D.rt) (XS X.K cA W A H) := q
  rw [toS_sat] at q'
  refine ⟨A, g, δ, r, l, R.sat_mono q' (fun z g1 q1 A1 H1 n r1 => ?_) fun _ _ _ e => XS.xp l e⟩
  cases z with
  | true => exact ⟨A1, g1, δ, r1, l.nx n, SR.nxm n q1⟩
  | false => exact ⟨A1, g1, δ, r1, l.nx n, SR.nxm n q1⟩
theorem s_set (C : EnvS X cA W cl tab lm sx k) {i : Nat} {x : Str} {px p : Pos} {e : E} (hi : X.N[i]? = some x) (hx : Loc X.env.scope x) (hs : swapsWith e.py (some (.Name x px)) p.line X.env = pure false) (h : PE X e.py (tI X.K cA W (ev cl e))) :
    PS X (S.asg i x px e p).py (tS X.K cA W (exe cl (.asg i x px e p))) :=
  ⟨fun pins s σ H D I q => (ps_set (i := i) C.env.nd hi hx h hs (.inl (C.fn x))).run pins s σ H D I (tS_expr (f := fun x δ g1 => .nx (δ.set i (some x)) g1) q fun A g δ x v H' r l rv q1 => q1 A H' _ (Nx.refl _ _) r (l.set rv))⟩
theorem s_par2 (C : EnvS X cA W cl tab lm sx k) {i j : Nat} {x y : Str} {px py pt pt2 p : Pos} {kt k2 : Nat} {a b : E} (hi : X.N[i]? = some x) (hj : X.N[j]? = some y) (hij : i ≠ j) (hx : X.env.scope.names.lookup x = some .local) (hy : X.env.scope.names.lookup y = some .local)
    (hw : swappedStores [.Tuple [.Name x px, .Name y py] kt pt] (.Tuple [a.py, b.py] k2 pt2) X.env = pure (some [x, y])) (h : PA X [a.py, b.py] (tA X.K cA W (evs cl (.cons a (.cons b .nil))))) :
    PS X (S.par2 i j x y px py pt kt a b k2 pt2 p).py (tS X.K cA W (exe cl (.par2 i j x y px py pt kt a b k2 pt2 p))) := by
  refine ⟨fun pins s σ H D I ⟨A, g, δ, r, l, q⟩ => (ps_par (i := i) (j := j) C.env.calm C.env.nd hi hj hij hx hy h hw).run pins s σ H D I ?_⟩
  have q' : ((ev cl a δ g).toS δ fun x g1 => (ev cl b δ g1).toS δ fun y g2 => .nx ((δ.set i (some x)).set j (some y)) g2).sat (GoN X.K A H D.nx) (GoD X.K A H D.rt) (XS X.K cA W A H) := q
  rw [toS_sat] at q'
  refine ⟨A, g, δ, r, l, ?_⟩
  show ((ev cl a δ g).bind fun x g1 => (((ev cl b δ g1).bind fun y g2 => (evs cl .nil δ g2).bind fun xs g3 => .ok (y :: xs) g3)).bind fun xs g2 => .ok (x :: xs) g2).sat _ _
  rw [R.sat_bind]
  refine R.sat_mono q' (fun x0 g1 q1 => ?_) fun _ _ _ e => XS.xp l e
  rw [toS_sat] at q1
  rw [R.sat_bind, R.sat_bind]
  refine R.sat_mono q1 (fun y0 g2 q2 => ?_) fun _ _ _ e => XS.xp l e
  show ∀ A' H' vs, _
  intro A1 H1 vs n r1 rv
  obtain ⟨v, u, rfl, hv, hu⟩ := rpl2 rv
  exact ⟨v, u, rfl, q2 A1 H1 _ n r1 (((l.nx n).set hv).set hu)⟩
theorem s_unp (C : EnvS X cA W cl tab lm sx k) {t : Tg} {e : E} {p : Pos} (ht : t.ok X.N X.env.scope = true) (hf : t.fnOk X) (hs : swapsWithSole [t.py] e.py p.line X.env = pure false) (hw : swappedStores [t.py] e.py X.env = pure none) (h : PE X e.py (tI X.K cA W (ev cl e))) :
    PS X (S.unp t e p).py (tS X.K cA W (exe cl (.unp t e p))) := by
  refine ⟨fun pins s σ H D I q => (ps_asg h (s_tg C.env.calm C.env.nd t ht hf) hs hw (by rw [nstar_tg] <;> rfl)).run pins s σ H D I (tS_expr (f := fun d δ g1 => (match t.put g1 d δ with
    | some δ1 => .nx δ1 g1
    | none => .bad)) q fun A g δ x v H' r l rv q1 => ?_)⟩
  split at q1
  · rename_i δ1 e1
    obtain ⟨σ1, _, l1, z⟩ := put_ok r t rv l e1
    exact z _ (q1 A H' σ1 (Nx.refl _ _) r l1)
  · exact absurd q1 id
theorem put_set (hu : X.A.units + 1 < cLine) : PSet X (fun o i v H Q => ∃ A g x y z, Rel X.K A g H ∧ Rp X.K A H x o ∧ Rp X.K A H y i ∧ Rp X.K A H z v ∧ (putR x y z g).sat (fun _ g' => ∀ A' H', Nx A H A' H' → Rel X.K A' g' H' → Q H') NoE) := by
  intro pins s σ H o i v ov iv u Q I ro ri rv ⟨A, g, x, y, z, r, hx, hy, hz, h⟩
  unfold putR at h
  split at h
  · rename_i n
    cases hx with
    | ref ha =>
      split at h
      · rename_i ds en
        obtain ⟨vs, h1, h2⟩ := r.obj n _ _ en ha
        split at h
        · rename_i k0
          cases hy with
          | int _ =>
            split at h
            · rename_i j ej
              obtain ⟨r1, n1⟩ := set_lst r (by assumption) ha (h2.set hz j)
              exact set_list pins s σ H _ _ _ ov iv u Q I ro ri rv ⟨_, vs, k0, j, rfl, rfl, h1, by rw [← h2.len]; exact ej, h A _ n1 r1⟩
            · exact absurd h id
        · exact absurd h id
      · rename_i kvs en
        obtain ⟨ws, h1, h2⟩ := r.obj n _ _ en ha
        split at h
        · rename_i k0 ek
          split at h
          · rename_i hl
            obtain ⟨r1, n1⟩ := r.write (o := .dic (putD kvs k0 z)) (u := .dK (putK ws k0 v)) ha (fun kvs z => by rw [en] at z; cases z) fun A' H' x e => ⟨_, e, put_rp (hz.nx x) (RpF.nx x h2)⟩
            have ev' := keyD_ok hy ek
            have ro' : ov = .ref _ := ro
            subst ro'
            exact d_setItem hu I (H' := upd H _ (.dK (putK ws k0 v))) (by rw [ev']; exact DPut.k h1 (by rw [← Paired.length h2]; exact hl)) ri rv fun s' I' => ⟨_, I', h A _ n1 r1⟩
          · exact absurd h id
        · exact absurd h id
      · exact absurd h id
  · exact absurd h id
theorem putR_nox {x y z : D} {g : G} {c : Str} {fs : Fs} {g' : G} : putR x y z g ≠ .ex c fs g' := fun e => by
  unfold putR at e
  split at e
  · split at e
    · split at e
      · split at e <;> cases e
      · cases e
    · split at e
      · split at e <;> cases e
      · cases e
    · cases e
  · cases e
theorem sub_assign (o i : E) (p : Pos) (env : Env) (v : Value) : assign (.Subscript o.py i.py p) env v = (do
      let ov ← holding [v] (eval o.py env)
      let iv ← holding [v, ov] (eval i.py env)
      standAt p
      holding [v, ov, iv] (setItem ov iv v)
      release [v, ov, iv] []) := by cases i <;> rfl
theorem s_put (C : EnvS X cA W cl tab lm sx k) {o i v : E} {p' p : Pos} (hl : v.isLc = false) (ho : PE X o.py (tI X.K cA W (ev cl o))) (hi : PE X i.py (tI X.K cA W (ev cl i))) (hv : PE X v.py (tI X.K cA W (ev cl v))) : PS X (S.put o i v p' p).py (tS X.K cA W (exe cl (.put o i v p' p))) := by
  refine ⟨fun pins s σ H D I q => (ps_asg hv (pg_sub ho hi (put_set (by have := C.env.u; omega)) (sub_assign o i p' X.env)) (by
    show swapsWith v.py (some (.Subscript o.py i.py p')) p.line X.env = pure false
    exact sw_plain hl _ _ _) (by rfl) (by rfl)).run pins s σ H D I (tS_expr (f := fun z δ g1 => (ev cl o δ g1).toS δ fun x g2 => (ev cl i δ g2).toS δ fun y g3 => (putR x y z g3).toS δ fun _ g4 => .nx δ g4) q fun A g δ z vz H' r l rz q1 => ?_)⟩
  rw [toS_sat] at q1
  refine ⟨A, g, δ, r, l, R.sat_mono q1 (fun x g2 q2 A2 H2 vx n2 r2' rx => ?_) fun _ _ _ e => XS.xp l e⟩
  rw [toS_sat] at q2
  refine ⟨A2, g2, δ, r2', l.nx n2, R.sat_mono q2 (fun y g3 q3 A3 H3 vy n3 r3 ry => ?_) fun _ _ _ e => XP.nx n2 (XS.xp l e)⟩
  rw [toS_sat] at q3
  refine ⟨A3, g3, x, y, z, r3, rx.nx n3, ry, rz.nx (n2.trans n3), ?_⟩
  cases e : putR x y z g3 with
  | bad => rw [e] at q3; exact absurd q3 id
  | ex c fs g' => exact absurd e putR_nox
  | ok u g4 =>
    rw [e] at q3
    exact fun A4 H4 n4 r4 => q3 A4 H4 σ ((n2.trans n3).trans n4) r4 (l.nx ((n2.trans n3).trans n4))
theorem augD_nox {op : Operator} {x y : D} {g : G} {c : Str} {fs : Fs} {g' : G} : augD op x y g ≠ .ex c fs g' := fun e => by
  unfold augD at e
  cases op with
  | Add => cases x <;> first | cases e | (cases y <;> cases e)
  | Sub => cases x <;> first | cases e | (cases y <;> cases e)
  | Mult =>
    cases x <;> first | cases e | (cases y <;> first | cases e | (have e' : (if smallB _ _ then .ok _ g else .bad : R D) = .ex c fs g' := e; split at e' <;> cases e'))
  | _ => cases e
theorem smallB_ok {i j : Int} (h : smallB i j = true) : CMul i j := by
  unfold smallB at h
  simp only [Bool.or_eq_true, Bool.and_eq_true, decide_eq_true_iff] at h
  exact h
theorem s_aug (C : EnvS X cA W cl tab lm sx k) {i : Nat} {x : Str} {px p : Pos} {op : Operator} {e : E} (hi : X.N[i]? = some x) (hx : Loc X.env.scope x) (h : PE X e.py (tI X.K cA W (ev cl e))) : PS X (S.aug i x px op e p).py (tS X.K cA W (exe cl (.aug i x px op e p))) := by
  have key : ∀ (ti : TIp), PIp X op ti → (∀ A g H x y v u Q, Rel X.K A g H → Rp X.K A H x v → Rp X.K A H y u → (augD op x y g).sat (GoD X.K A H Q) NoE → ti v u H Q) → PS X (S.aug i x px op e p).py (tS X.K cA W (exe cl (.aug i x px op e p))) := fun ti hti hr => by
    refine ⟨fun pins s σ H D I ⟨A, g, δ, r, l, q⟩ => (ps_aug (i := i) C.env.nd hi hx h hti (.inl (C.fn x))).run pins s σ H D I ?_⟩
    have q' : ((match (δ[i]?).join with
      | some x => (ev cl e δ g).toS δ fun y g1 => (augD op x y g1).toS δ fun z g2 => .nx (δ.set i (some z)) g2
      | none => .bad) : SR).sat (GoN X.K A H D.nx) (GoD X.K A H D.rt) (XS X.K cA W A H) := q
    split at q'
    · rename_i x0 e0
      have e2 : δ[i]? = some (some x0) := by
        cases q : δ[i]? with
        | none => rw [q] at e0; cases e0
        | some o => rw [q] at e0; have : o = some x0 := e0; rw [this]
      obtain ⟨v0, h1, h2⟩ := l.get i x0 e2
      refine ⟨v0, h1, ?_⟩
      rw [toS_sat] at q'
      refine ⟨A, g, δ, r, l, R.sat_mono q' (fun y g1 q1 A1 H1 u n1 r1 ru => ?_) fun _ _ _ e => XS.xp l e⟩
      rw [toS_sat] at q1
      refine hr A1 g1 H1 x0 y v0 u _ r1 (h2.nx n1) ru ?_
      cases ea : augD op x0 y g1 with
      | bad => rw [ea] at q1; exact absurd q1 id
      | ex c fs g' =>
        exact absurd ea augD_nox
      | ok z g2 =>
        rw [ea] at q1
        exact fun A2 H2 w n2 r2' rw' => q1 A2 H2 _ (n1.trans n2) r2' ((l.nx (n1.trans n2)).set rw')
    · exact absurd q' id
  cases op with
  | Add =>
    refine key (fun x y H Q => ∃ i j, x = .int i ∧ y = .int j ∧ Q (.int (i + j)) H) (fun pins s σ H x y v u Q I rx ry h => iop_add pins s σ H x y v u Q I rx ry h) fun A g H x y v u Q r hx hy hq => ?_
    cases hx <;> first | exact absurd hq id | (cases hy <;> first | exact absurd hq id | exact ⟨_, _, rfl, rfl, hq A H _ (Nx.refl _ _) r (.int _)⟩)
  | Sub =>
    refine key (fun x y H Q => ∃ i j, x = .int i ∧ y = .int j ∧ Q (.int (i - j)) H) (fun pins s σ H x y v u Q I rx ry h => iop_sub pins s σ H x y v u Q I rx ry h) fun A g H x y v u Q r hx hy hq => ?_
    cases hx <;> first | exact absurd hq id | (cases hy <;> first | exact absurd hq id | exact ⟨_, _, rfl, rfl, hq A H _ (Nx.refl _ _) r (.int _)⟩)
  | Mult =>
    refine key (fun x y H Q => ∃ i j, x = .int i ∧ y = .int j ∧ CMul i j ∧ Q (.int (i * j)) H) (fun pins s σ H x y v u Q I rx ry h => iop_mul pins s σ H x y v u Q I rx ry h) fun A g H x y v u Q r hx hy hq => ?_
    cases hx with
    | int i =>
      cases hy with
      | int j =>
        have hq' : (if smallB i j then .ok (.int (i * j)) g else .bad : R D).sat (GoD X.K A H Q) NoE := hq
        split at hq'
        · rename_i hb
          exact ⟨i, j, rfl, rfl, smallB_ok hb, hq' A H _ (Nx.refl _ _) r (.int _)⟩
        · exact absurd hq' id
      | _ => exact absurd hq id
    | _ => exact absurd hq id
  | _ => exact key (fun _ _ _ _ => False) (fun pins s σ H x y v u Q I rx ry h => absurd h id) fun A g H x y v u Q r hx hy hq => hq
theorem s_whl (C : EnvS X cA W cl tab lm sx k) {c : E} {a : Ss} {p : Pos} (hc : PT X c.py (tT X.K cA W (evT cl c))) (ha : PSs X a.pys (tS X.K cA W (exes cl a))) : PS X (S.whl c a p).py (tS X.K cA W (exe cl (.whl c a p))) := by
  refine ⟨fun pins s σ0 H0 D I ⟨A0, g0, δ0, r0, l0, q0⟩ => (ps_while C.pas hc ha).run pins s σ0 H0 D I ?_⟩
  refine ⟨fun m σ H => ∃ A g δ, Nx A0 H0 A H ∧ Rel X.K A g H ∧ LcR X.K A H δ σ ∧ (whileS (evT cl c) (exes cl a) m δ g).sat (GoN X.K A0 H0 D.nx) (GoD X.K A0 H0 D.rt) (XS X.K cA W A0 H0), ⟨FUEL, A0, g0, δ0, Nx.refl _ _, r0, l0, q0⟩, ?_⟩
  rintro m σ H ⟨A, g, δ, n, r, l, q⟩
  cases m with
  | zero => exact absurd q id
  | succ m =>
    have q' : ((evT cl c δ g).toS δ fun b g1 => if b then (exes cl a δ g1).seq fun δ2 g2 => whileS (evT cl c) (exes cl a) m δ2 g2 else .nx δ g1).sat (GoN X.K A0 H0 D.nx) (GoD X.K A0 H0 D.rt) (XS X.K cA W A0 H0) := q
    rw [toS_sat] at q'
    refine ⟨A, g, δ, r, l, R.sat_mono q' (fun b g1 q1 A1 H1 n1 r1 => ?_) fun _ _ _ e => XS.xp l (XS.nx n e)⟩
    cases b with
    | false => exact q1 A1 H1 σ (n.trans n1) r1 (l.nx n1)
    | true =>
      have q2 : ((exes cl a δ g1).seq fun δ2 g2 => whileS (evT cl c) (exes cl a) m δ2 g2).sat (GoN X.K A0 H0 D.nx) (GoD X.K A0 H0 D.rt) (XS X.K cA W A0 H0) := q1
      rw [seq_sat] at q2
      refine ⟨_, fun σ' H' h => ⟨m, Nat.lt_succ_self m, h⟩, A1, g1, δ, r1, l.nx n1, SR.sat_mono q2 (fun δ2 g2 q3 A2 H2 σ2 n2 r2' l2 => ⟨A2, g2, δ2, n.trans (n1.trans n2), r2', l2, q3⟩) (fun d g3 q3 => GoD.nx (n.trans n1) q3) fun _ _ _ _ e => XS.nx (n.trans n1) e⟩
theorem s_forr (C : EnvS X cA W cl tab lm sx k) {tg : Tg} {it : It} {a : Ss} {p : Pos} (hi : PI X tg.py it.py (tW X.K cA W (evI cl it))) (hg : PG X tg.py (gT X.K tg)) (ha : PSs X a.pys (tS X.K cA W (exes cl a))) : PS X (S.forr tg it a p).py (tS X.K cA W (exe cl (.forr tg it a p))) := by
  refine ⟨fun pins s σ0 H0 D I ⟨A0, g0, δ0, r0, l0, q0⟩ => (ps_for C.pas C.env.calm hi hg ha (fset_py it X.env)).run pins s σ0 H0 D I ?_⟩
  have q' : ((evI cl it δ0 g0).toS δ0 fun w g1 => forS w tg (exes cl a) FUEL 0 δ0 g1).sat (GoN X.K A0 H0 D.nx) (GoD X.K A0 H0 D.rt) (XS X.K cA W A0 H0) := q0
  rw [toS_sat] at q'
  refine ⟨A0, g0, δ0, r0, l0, R.sat_mono q' (fun w g1 q1 A1 H1 J n1 r1 hJ => ?_) fun _ _ _ e => XS.xp l0 e⟩
  refine ⟨fun i m σ H => ∃ A g δ, Nx A1 H1 A H ∧ Rel X.K A g H ∧ LcR X.K A H δ σ ∧ (forS w tg (exes cl a) m i δ g).sat (GoN X.K A0 H0 D.nx) (GoD X.K A0 H0 D.rt) (XS X.K cA W A0 H0), ⟨FUEL, A1, g1, δ0, Nx.refl _ _, r1, l0.nx n1, q1⟩, ?_⟩
  rintro i m σ H ⟨A, g, δ, n, r, l, q⟩
  cases m with
  | zero => exact absurd q id
  | succ m =>
    obtain ⟨j1, j2⟩ := hJ A g H i n r
    have q2 : (match w i g with
      | none => .bad
      | some none => .nx δ g
      | some (some d) => (match tg.put g d δ with
        | some δ1 => (exes cl a δ1 g).seq fun δ2 g2 => forS w tg (exes cl a) m (i + 1) δ2 g2
        | none => .bad) : SR).sat (GoN X.K A0 H0 D.nx) (GoD X.K A0 H0 D.rt) (XS X.K cA W A0 H0) := q
    split at q2
    · exact absurd q2 id
    · rename_i e
      exact .inl ⟨j1 e, q2 A H σ (n1.trans n) r l⟩
    · rename_i d e
      obtain ⟨jg, jy⟩ := j2 d e
      split at q2
      · rename_i δ1 e1
        rw [seq_sat] at q2
        refine .inr ⟨jg, _, fun σ' H' h => ⟨m, Nat.lt_succ_self m, h⟩, fun x H' hy => ?_⟩
        obtain ⟨A', n', r', hx⟩ := jy x H' hy
        obtain ⟨σ1, _, l1, z⟩ := put_ok r' tg hx (l.nx n') e1
        refine z _ ?_
        have n3 := n.trans n'
        have n4 := n1.trans n3
        exact ⟨A', g, δ1, r', l1, SR.sat_mono q2 (fun δ2 g2 q3 A2 H2 σ2 n2 r2' l2 => ⟨A2, g2, δ2, n3.trans n2, r2', l2, q3⟩) (fun d g3 q3 => GoD.nx n4 q3) fun _ _ _ _ e => XS.nx n4 e⟩
      · exact absurd q2 id
/-- name = [..], on one line -/
theorem s_setL {i : Nat} {x : Str} {px p : Pos} {e : PySem.Expr} {m : Sl → G → R D} {te : TE} (hp : PS X (.Assign [.Name x px] e p) (tAsg te (gName i)))
    (hr : ∀ σ H Q, tI X.K cA W m σ H Q → te σ H Q) : PS X (.Assign [.Name x px] e p) (tS X.K cA W fun δ g => (m δ g).toS δ fun d g1 => .nx (δ.set i (some d)) g1) :=
  ⟨fun pins s σ H D I q => hp.run pins s σ H D I (hr σ H _ (tS_expr (f := fun x δ g1 => .nx (δ.set i (some x)) g1) q fun A g δ x v H' r l rv q1 => q1 A H' _ (Nx.refl _ _) r (l.set rv)))⟩
end
end PD
set_option Elab.async false
set_option linter.all false
set_option maxRecDepth 100000
set_option maxHeartbeats 4000000
/-! PD14: tuple stores, comprehensions stored, raise; every checked statement keeps to its meaning. -/
namespace PD
open PySem PySem.Spec PyProof.Rows L2
variable [Tb]
theorem blk_fun {env : Env} (hk : env.scope.kind = .function) : env.blockKind = .function := by unfold Env.blockKind; rw [hk]; rfl
theorem py_star (e : E) : (match e.py with | .Starred .. => true | _ => false) = false := by cases e <;> rfl
def swpB (sc : Scope) (ns : List (Str × Pos)) (es : List E) : Bool :=
  (sc.kind == .function) && (ns.all fun q => decide (sc.names.lookup q.1 = some .local) && ((ns.head?.map (·.2.line)).getD 0 == q.2.line)) && !((es.map E.py).all (foldedForSure 8)) && !((es.map E.py).all (constantsAlone 8))
theorem kind_beq {a b : ScopeKind} (h : (a == b) = true) : a = b := by cases a <;> cases b <;> first | rfl | exact absurd h (by decide)
theorem swp2 {a b : E} {x y : Str} {px py pt pt2 : Pos} {kt k2 : Nat} {env : Env} (hne : x ≠ y) (h : swpB env.scope [(x, px), (y, py)] [a, b] = true) :
    swappedStores [.Tuple [.Name x px, .Name y py] kt pt] (.Tuple [a.py, b.py] k2 pt2) env = pure (some [x, y]) := by
  unfold swpB at h
  simp only [Bool.and_eq_true, Bool.not_eq_true', List.all_cons, List.all_nil, Bool.and_true, decide_eq_true_iff, List.head?_cons, Option.map_some, Option.getD_some, List.map_cons, List.map_nil] at h
  obtain ⟨⟨⟨h1, ⟨h2, h2'⟩, h3, h3'⟩, h4⟩, h5⟩ := h
  have hb := blk_fun (kind_beq h1)
  have kx : env.kindOf x = some .local := h2
  have ky : env.kindOf y = some .local := h3
  have s1 := py_star a
  have s2 := py_star b
  have l2 : (py.line == px.line) = true := by rw [beq_iff_eq] at h3' ⊢; exact h3'.symm
  have hd : ([x, y].eraseDups).length = 2 := by
    have : (y == x) = false := by rw [beq_eq_false_iff_ne]; exact fun e => hne e.symm
    simp [List.eraseDups_cons, this]
  unfold swappedStores
  simp only [List.any_cons, List.any_nil, s1, s2, hb, Bool.or_false, List.length_cons, List.length_nil, List.filterMap_cons, List.filterMap_nil, kx, ky, List.head?_cons, Option.map_some, Option.getD_some, PySem.Expr.pos, h2', l2]
  simp [h4, h5, hd, l2]
  intro hh
  exfalso
  clear s1 s2 h4 h5
  rcases hh with e | e
  · cases a <;> cases e
  · cases b <;> cases e
theorem swp3 {a b c : E} {x y z : Str} {px py pz pt pt2 : Pos} {kt k2 : Nat} {env : Env} (hxy : x ≠ y) (hxz : x ≠ z) (hyz : y ≠ z) (h : swpB env.scope [(x, px), (y, py), (z, pz)] [a, b, c] = true) :
    swappedStores [.Tuple [.Name x px, .Name y py, .Name z pz] kt pt] (.Tuple [a.py, b.py, c.py] k2 pt2) env = pure (some [x, y, z]) := by
  unfold swpB at h
  simp only [Bool.and_eq_true, Bool.not_eq_true', List.all_cons, List.all_nil, Bool.and_true, decide_eq_true_iff, List.head?_cons, Option.map_some, Option.getD_some, List.map_cons, List.map_nil] at h
  obtain ⟨⟨⟨h1, ⟨h2, h2'⟩, ⟨h3, h3'⟩, h6, h6'⟩, h4⟩, h5⟩ := h
  have hb := blk_fun (kind_beq h1)
  have kx : env.kindOf x = some .local := h2
  have ky : env.kindOf y = some .local := h3
  have kz : env.kindOf z = some .local := h6
  have s1 := py_star a
  have s2 := py_star b
  have s3 := py_star c
  have l2 : (py.line == px.line) = true := by rw [beq_iff_eq] at h3' ⊢; exact h3'.symm
  have l3 : (pz.line == px.line) = true := by rw [beq_iff_eq] at h6' ⊢; exact h6'.symm
  have hd : ([x, y, z].eraseDups).length = 3 := by
    have e1 : (y == x) = false := by rw [beq_eq_false_iff_ne]; exact fun e => hxy e.symm
    have e2 : (z == x) = false := by rw [beq_eq_false_iff_ne]; exact fun e => hxz e.symm
    have e3 : (z == y) = false := by rw [beq_eq_false_iff_ne]; exact fun e => hyz e.symm
    simp [List.eraseDups_cons, e1, e2, e3]
  unfold swappedStores
  simp only [List.any_cons, List.any_nil, s1, s2, s3, hb, Bool.or_false, List.length_cons, List.length_nil, List.filterMap_cons, List.filterMap_nil, kx, ky, kz, List.head?_cons, Option.map_some, Option.getD_some, PySem.Expr.pos, h2', l2, l3]
  simp [h4, h5, hd, l2, l3]
  intro hh
  exfalso
  clear s1 s2 s3 h4 h5
  rcases hh with e | e | e
  · cases a <;> cases e
  · cases b <;> cases e
  · cases c <;> cases e
/-- no stores in swapped order, to be seen at once -/
def simpB : E → Bool
  | .num _ _ _ => true
  | .txt _ _ _ => true
  | .boo _ _ _ => true
  | .non _ _ => true
  | .neg (.num _ _ _) _ => true
  | _ => false
def simpsB : Es → Bool
  | .nil => true
  | .cons e r => simpB e && simpsB r
/-- a target that is no plain local name -/
def oddT (sc : Scope) : Tg → Bool
  | .name _ x _ => !decide (sc.names.lookup x = some .local)
  | .tup _ _ _ => true
def noSw (sc : Scope) : Tg → E → Bool
  | .name _ _ _, _ => true
  | .tup ts _ _, .tup es _ _ => (!(ts.length == 2 || ts.length == 3)) || !(es.len == ts.length) || simpsB es || (ts.any (oddT sc))
  | _, _ => true
theorem simpB_ok {e : E} (h : simpB e = true) : foldedForSure 8 e.py = true := by
  unfold simpB at h
  split at h <;> first | rfl | cases h
theorem simpsB_ok : ∀ {es : Es}, simpsB es = true → es.pys.all (foldedForSure 8) = true
  | .nil, _ => rfl
  | .cons e r, h => by
    obtain ⟨h1, h2⟩ := and2 (show (simpB e && simpsB r) = true from h)
    show (foldedForSure 8 e.py && r.pys.all (foldedForSure 8)) = true
    rw [simpB_ok h1, simpsB_ok h2]; rfl
theorem pys_len : ∀ es : Es, es.pys.length = es.len
  | .nil => rfl
  | .cons e r => congrArg (· + 1) (pys_len r)
theorem tpys_len : ∀ ts : List Tg, (Tg.pys ts).length = ts.length
  | [] => rfl
  | t :: ts => congrArg (· + 1) (tpys_len ts)
theorem fm_len {sc : Scope} {f : PySem.Expr → Option Str} (hf : ∀ t : Tg, oddT sc t = true → f t.py = none) : ∀ ts : List Tg, (ts.any (oddT sc)) = true → ((Tg.pys ts).filterMap f).length < ts.length
  | [], h => by cases h
  | t :: ts, h => by
    show ((t.py :: Tg.pys ts).filterMap f).length < ts.length + 1
    have le : ((Tg.pys ts).filterMap f).length ≤ ts.length := by
      have := List.length_filterMap_le f (Tg.pys ts)
      rw [tpys_len] at this
      exact this
    have h' : (oddT sc t || ts.any (oddT sc)) = true := h
    rw [Bool.or_eq_true] at h'
    rw [List.filterMap_cons]
    rcases h' with h' | h'
    · rw [hf t h']
      show ((Tg.pys ts).filterMap f).length < ts.length + 1
      omega
    · have q := fm_len hf ts h'
      split
      · omega
      · simp only [List.length_cons]; omega
theorem noSw_ok {t : Tg} {e : E} {env : Env} (h : noSw env.scope t e = true) : swappedStores [t.py] e.py env = pure none := by
  cases t with
  | name i x p => cases e <;> rfl
  | tup ts k p =>
    cases e with
    | tup es k2 p2 =>
      have h' : ((!(ts.length == 2 || ts.length == 3)) || !(es.len == ts.length) || simpsB es || (ts.any (oddT env.scope))) = true := h
      show swappedStores [.Tuple (Tg.pys ts) k p] (.Tuple es.pys k2 p2) env = pure none
      unfold swappedStores
      simp only [tpys_len, pys_len]
      rw [Bool.or_eq_true, Bool.or_eq_true, Bool.or_eq_true] at h'
      split
      · rfl
      · rename_i hc
        split
        · rfl
        · split
          · rfl
          · rename_i hn
            rcases h' with ((h1 | h1) | h1) | h1
            · exact absurd (by rw [h1]; rfl) hc
            · exact absurd (by
                have : (es.len != ts.length) = true := by simpa using h1
                rw [this]
                simp) hc
            · split
              · rfl
              · rename_i hf
                exact absurd (simpsB_ok h1) hf
            · exfalso
              apply hn
              have q := fm_len (sc := env.scope) (f := fun x => match x with
                | .Name id pos => if env.kindOf id == some .local && pos.line == (((Tg.pys ts).head?.map (·.pos.line)).getD 0) then some id else none
                | _ => none) (fun t ht => by
                  cases t with
                  | tup us k p => rfl
                  | name i x p =>
                    have ht' : (!decide (env.scope.names.lookup x = some .local)) = true := ht
                    have hn : ¬ env.scope.names.lookup x = some .local := by simpa using ht'
                    have hk : (env.kindOf x == some .local) = false := by
                      rw [beq_eq_false_iff_ne]
                      exact hn
                    show (if (env.kindOf x == some .local && _) = true then some x else none) = none
                    rw [hk]
                    rfl) ts h1
              rw [Bool.or_eq_true]
              exact .inl (by
                rw [bne_iff_ne]
                exact Nat.ne_of_lt q)
    | _ => rfl
section
variable {X : Cx} {cA : Str → Addr} {W : WX} {cl : Nat → List D → G → R D} {tab : Nat → Option FnI} {lm : Lm} {sx : Str → Option Str} {k : Nat}
theorem rpl3 {K : PySem.W.Frag} {A : List Addr} {H : Hp} {x y z : D} {vs : List V} (h : RpL K A H [x, y, z] vs) : ∃ v u w, vs = [v, u, w] ∧ Rp K A H x v ∧ Rp K A H y u ∧ Rp K A H z w := by
  cases h with
  | cons h1 h => obtain ⟨u, w, rfl, h2, h3⟩ := rpl2 h; exact ⟨_, _, _, rfl, h1, h2, h3⟩
theorem s_par3 (C : EnvS X cA W cl tab lm sx k) {i j l : Nat} {x y z : Str} {px py pz pt pt2 p : Pos} {kt k2 : Nat} {a b c : E} (hi : X.N[i]? = some x) (hj : X.N[j]? = some y) (hl : X.N[l]? = some z) (hij : i ≠ j) (hil : i ≠ l) (hjl : j ≠ l)
    (hx : X.env.scope.names.lookup x = some .local) (hy : X.env.scope.names.lookup y = some .local) (hz : X.env.scope.names.lookup z = some .local)
    (hw : swappedStores [.Tuple [.Name x px, .Name y py, .Name z pz] kt pt] (.Tuple [a.py, b.py, c.py] k2 pt2) X.env = pure (some [x, y, z])) (h : PA X [a.py, b.py, c.py] (tA X.K cA W (evs cl (.cons a (.cons b (.cons c .nil)))))) :
    PS X (S.par3 i j l x y z px py pz pt kt a b c k2 pt2 p).py (tS X.K cA W (exe cl (.par3 i j l x y z px py pz pt kt a b c k2 pt2 p))) := by
  refine ⟨fun pins s σ H D I ⟨A, g, δ, r, l0, q⟩ => (ps_par3 (i := i) (j := j) (l := l) C.env.calm C.env.nd hi hj hl hij hil hjl hx hy hz h hw).run pins s σ H D I ?_⟩
  have q' : ((ev cl a δ g).toS δ fun x g1 => (ev cl b δ g1).toS δ fun y g2 => (ev cl c δ g2).toS δ fun z g3 => .nx (((δ.set i (some x)).set j (some y)).set l (some z)) g3).sat (GoN X.K A H D.nx) (GoD X.K A H D.rt) (XS X.K cA W A H) := q
  rw [toS_sat] at q'
  refine ⟨A, g, δ, r, l0, ?_⟩
  show ((ev cl a δ g).bind fun x g1 => (((ev cl b δ g1).bind fun y g2 => (((ev cl c δ g2).bind fun z g3 => (evs cl .nil δ g3).bind fun xs g4 => .ok (z :: xs) g4)).bind fun xs g3 => .ok (y :: xs) g3)).bind fun xs g2 => .ok (x :: xs) g2).sat _ _
  rw [R.sat_bind]
  refine R.sat_mono q' (fun x0 g1 q1 => ?_) fun _ _ _ e => XS.xp l0 e
  rw [toS_sat] at q1
  rw [R.sat_bind, R.sat_bind]
  refine R.sat_mono q1 (fun y0 g2 q2 => ?_) fun _ _ _ e => XS.xp l0 e
  rw [toS_sat] at q2
  rw [R.sat_bind, R.sat_bind]
  refine R.sat_mono q2 (fun z0 g3 q3 => ?_) fun _ _ _ e => XS.xp l0 e
  show ∀ A' H' vs, _
  intro A1 H1 vs n r1 rv
  obtain ⟨v, u, w, rfl, hv, hu, hz⟩ := rpl3 rv
  exact ⟨v, u, w, rfl, q3 A1 H1 _ n r1 ((((l0.nx n).set hv).set hu).set hz)⟩
theorem s_rse (C : EnvS X cA W cl tab lm sx k) {x f : Str} {px p1 p : Pos} {e : E} (hg : gloB X.env.scope x = true) (hx : sx x = some f) (h : PE X e.py (tI X.K cA W (ev cl e))) :
    PS X (S.rse x px f e p1 p).py (tS X.K cA W (exe cl (.rse x px f e p1 p))) := by
  obtain ⟨cls, mg, fI, fd, ps, j, iC, tI', F1, hb, hj⟩ := C.exs x f hx
  refine ⟨fun pins s σ H D I ⟨A, g, δ, r, l, q⟩ => (ps_raise C.env.calm C.env.takes (pmk_oex (k := j) (sp := spX (cA x) f) (ds := []) (dvs := []) cls iC tI' F1 (C.env.room.mono hj) hb .nil (fun pins σ H s e s' I c => passes_call (E := fun _ _ _ => False) C.env.takes (fun _ _ _ _ z => absurd z id) pins σ H s e s' I c) (gloB_ok hg).1 mg (s_acons (es := .nil) h s_anil) (gloB_ok hg).2 (star_py e [] X.env) rfl)).run pins s σ H D I ?_⟩
  have q' : ((ev cl e δ g).toS δ fun d g1 => .ex x [(f, d)] δ g1).sat (GoN X.K A H D.nx) (GoD X.K A H D.rt) (XS X.K cA W A H) := q
  rw [toS_sat] at q'
  refine ⟨A, g, δ, r, l, ?_⟩
  show ((ev cl e δ g).bind fun x g1 => (evs cl .nil δ g1).bind fun xs g2 => .ok (x :: xs) g2).sat _ _
  rw [R.sat_bind]
  refine R.sat_mono q' (fun d g1 q1 => ?_) fun _ _ _ e => XS.xp l e
  show ∀ A' H' vs, _
  intro A1 H1 vs n r1 rv
  obtain ⟨v, rfl, hv⟩ := rpl1 rv
  refine ⟨by show 1 ≤ 1000; omega, fun a ha => ⟨a, v, rfl, upd_same, fun dx hdx hne => ⟨rfl, dx, [(f, v)], upd_same, ?_, ?_, ?_⟩⟩⟩
  · rw [upd_ne hne, upd_same]
  · rw [upd_ne hne] at hdx; exact hdx
  · have hd1 : H1 dx = none := by rw [upd_ne hne] at hdx; exact hdx
    obtain ⟨r2, n2⟩ := r1.same (H' := upd (del (upd (upd (upd H1 a (exo a (cA x) none)) dx (exd dx [(f, v)])) a (exo a (cA x) (some dx))) a) dx (.xd [(f, v)])) (fun b o hb' => by
      have h1 : b ≠ a := fun z => by rw [z, ha] at hb'; cases hb'
      have h2 : b ≠ dx := fun z => by rw [z, hd1] at hb'; cases hb'
      rw [upd_ne h2, del_ne h1, upd_ne h1, upd_ne h2, upd_ne h1]
      exact hb')
    exact q1 A1 _ σ dx _ (n.trans n2) r2 (l.nx (n.trans n2)) upd_same (.cons ⟨rfl, hv.nx n2⟩ .nil)
/-! ### name = [..] -/
def asgOk (sc : Scope) (x : Str) (px : Pos) : E → Bool
  | .lc _ _ _ _ scope _ pos => ((sc.kind == .function) && decide (sc.names.lookup x = some .local) && (px.line == pos.line) && !(scope.names.any fun (n, k) => n == x && (k == .local || k == .cell))) || decide (sc.names.lookup x = some .cell)
  | .lc2 _ _ _ _ _ _ _ scope _ _ pos => ((sc.kind == .function) && decide (sc.names.lookup x = some .local) && (px.line == pos.line) && !(scope.names.any fun (n, k) => n == x && (k == .local || k == .cell))) || decide (sc.names.lookup x = some .cell)
  | _ => true
theorem sw_cell {elt : PySem.Expr} {gs : List Comprehension} {scope : Scope} {pos py : Pos} {y : Str} {l : Nat} {env : Env} (hy : env.scope.names.lookup y = some .cell) : swapsWith (.ListComp elt gs scope pos) (some (.Name y py)) l env = pure false := by
  have ky : env.kindOf y = some .cell := hy
  have q : (NameKind.cell == NameKind.local) = false := rfl
  unfold swapsWith
  simp only [ky, show ((some NameKind.cell == some NameKind.local) = false) from rfl, Bool.and_false, Bool.false_and]
variable {sg : Nat → Option Sig}
theorem asg_lc (HS : TabOk sg tab) (C : EnvS X cA W cl tab lm sx k) {i : Nat} {x : Str} {px p : Pos} {elt : E} {tg : Tg} {it : It} {ifs : Es} {scope : Scope} {own : List (Str × Nat)} {pos : Pos} (hi : X.N[i]? = some x) (hl : locB X.env.scope x = true) (ha : asgOk X.env.scope x px (.lc elt tg it ifs scope own pos) = true)
    (h : okE sg X.N lm X.env.scope (.lc elt tg it ifs scope own pos) = true) : PS X (S.asg i x px (.lc elt tg it ifs scope own pos) p).py (tS X.K cA W (exe cl (.asg i x px (.lc elt tg it ifs scope own pos) p))) := by
  have ha' : (((X.env.scope.kind == .function) && decide (X.env.scope.names.lookup x = some .local) && (px.line == pos.line) && !(scope.names.any fun (n, k) => n == x && (k == .local || k == .cell))) || decide (X.env.scope.names.lookup x = some .cell)) = true := ha
  rw [Bool.or_eq_true] at ha'
  rcases ha' with ha' | ha'
  · obtain ⟨ha', a4⟩ := and2 ha'
    obtain ⟨ha', a3⟩ := and2 ha'
    obtain ⟨a1, a2⟩ := and2 ha'
    obtain ⟨h1, h2, h3, h4, h5, h6⟩ := snd_lc (snd_I HS it) (snd_Es HS ifs) (snd_F HS ifs) (snd_E HS elt) X W lm C.env h
    exact s_setL (ps_setLc C.env.calm C.env.nd hi (of_decide_eq_true a2) (sw_true (kind_beq a1) (of_decide_eq_true a2) a3 (by simpa using a4)) h1 h2 h3 h4 h5 (fset_py it X.env)) fun σ H Q q => lc_read h6 q
  · exact s_set C hi (locB_ok hl) (sw_cell (of_decide_eq_true ha')) (snd_E HS (.lc elt tg it ifs scope own pos) X W lm C.env h).1
theorem asg_lc2 (HS : TabOk sg tab) (C : EnvS X cA W cl tab lm sx k) {i : Nat} {x : Str} {px p : Pos} {elt : E} {tg tg1 : Tg} {it it1 : It} {ifs ifs1 : Es} {scope : Scope} {own : List (Str × Nat)} {vs1 : List Nat} {pos : Pos} (hi : X.N[i]? = some x) (hl : locB X.env.scope x = true) (ha : asgOk X.env.scope x px (.lc2 elt tg it ifs tg1 it1 ifs1 scope own vs1 pos) = true)
    (h : okE sg X.N lm X.env.scope (.lc2 elt tg it ifs tg1 it1 ifs1 scope own vs1 pos) = true) : PS X (S.asg i x px (.lc2 elt tg it ifs tg1 it1 ifs1 scope own vs1 pos) p).py (tS X.K cA W (exe cl (.asg i x px (.lc2 elt tg it ifs tg1 it1 ifs1 scope own vs1 pos) p))) := by
  have ha' : (((X.env.scope.kind == .function) && decide (X.env.scope.names.lookup x = some .local) && (px.line == pos.line) && !(scope.names.any fun (n, k) => n == x && (k == .local || k == .cell))) || decide (X.env.scope.names.lookup x = some .cell)) = true := ha
  rw [Bool.or_eq_true] at ha'
  rcases ha' with ha' | ha'
  · obtain ⟨ha', a4⟩ := and2 ha'
    obtain ⟨ha', a3⟩ := and2 ha'
    obtain ⟨a1, a2⟩ := and2 ha'
    obtain ⟨h1, h2, h3, h4, h5, h6, h7, h8, h9, h10, h11⟩ := snd_lc2 (snd_I HS it) (snd_I HS it1) (snd_F HS ifs) (snd_F HS ifs1) (snd_E HS elt) X W lm C.env h
    exact s_setL (ps_setLc2 C.env.calm C.env.nd hi (of_decide_eq_true a2) (sw_true (kind_beq a1) (of_decide_eq_true a2) a3 (by simpa using a4)) h1 h2 h11 h3 h4 h5 h6 h7 h8 (fset_py it X.env) (fset_py it1)) fun σ H Q q => lc2_read h9 h10 q
  · exact s_set C hi (locB_ok hl) (sw_cell (of_decide_eq_true ha')) (snd_E HS (.lc2 elt tg it ifs tg1 it1 ifs1 scope own vs1 pos) X W lm C.env h).1
mutual
theorem fnOk_all (C : EnvS X cA W cl tab lm sx k) : ∀ t : Tg, t.fnOk X
  | .name i x p => .inl (C.fn x)
  | .tup ts _ _ => fnOks_all C ts
theorem fnOks_all (C : EnvS X cA W cl tab lm sx k) : ∀ ts : List Tg, Tg.fnOks X ts
  | [] => trivial
  | t :: ts => ⟨fnOk_all C t, fnOks_all C ts⟩
end
theorem sw_unp {t : Tg} {e : E} (h : (t.isTup || !e.isLc) = true) (l : Nat) (env : Env) : swapsWithSole [t.py] e.py l env = pure false := by
  show swapsWith e.py (some t.py) l env = pure false
  cases hl : e.isLc with
  | false => exact sw_plain hl _ _ _
  | true =>
    cases t with
    | name i x p => rw [hl] at h; cases h
    | tup ts k p => cases e <;> first | rfl | (cases hl)
end
/-! ### the check of statements -/
section
variable (sg : Nat → Option Sig) (sx : Str → Option Str) (N : List Str) (lm : Lm)
mutual
def okS (sc : Scope) : S → Bool
  | .asg i x px e _ => okE sg N lm sc e && decide (N[i]? = some x) && locB sc x && asgOk sc x px e
  | .par2 i j x y px py _ _ a b _ _ _ => okE sg N lm sc a && okE sg N lm sc b && decide (N[i]? = some x) && decide (N[j]? = some y) && decide (i ≠ j) && decide (x ≠ y) && decide (sc.names.lookup x = some .local) && decide (sc.names.lookup y = some .local) && swpB sc [(x, px), (y, py)] [a, b]
  | .par3 i j l x y z px py pz _ _ a b c _ _ _ => okE sg N lm sc a && okE sg N lm sc b && okE sg N lm sc c && decide (N[i]? = some x) && decide (N[j]? = some y) && decide (N[l]? = some z) && decide (i ≠ j) && decide (i ≠ l) && decide (j ≠ l) && decide (x ≠ y) && decide (x ≠ z) && decide (y ≠ z) &&
      decide (sc.names.lookup x = some .local) && decide (sc.names.lookup y = some .local) && decide (sc.names.lookup z = some .local) && swpB sc [(x, px), (y, py), (z, pz)] [a, b, c]
  | .rse x _ f e _ _ => okE sg N lm sc e && gloB sc x && decide (sx x = some f)
  | .unp tg e _ => okE sg N lm sc e && tg.ok N sc && noSw sc tg e && (tg.isTup || !e.isLc)
  | .put o i v _ _ => okE sg N lm sc o && okE sg N lm sc i && okE sg N lm sc v && !v.isLc
  | .aug i x _ _ e _ => okE sg N lm sc e && decide (N[i]? = some x) && locB sc x
  | .exp e _ => okE sg N lm sc e && !e.isLc
  | .ret e _ => okE sg N lm sc e
  | .ifs c a b _ => okE sg N lm sc c && okSs sc a && okSs sc b
  | .whl c a _ => okE sg N lm sc c && okSs sc a
  | .forr tg it a _ => okI sg N lm sc it && tg.ok N sc && (tg.isTup || it.nm) && okSs sc a
  | .pas _ => true
def okSs (sc : Scope) : Ss → Bool
  | .nil => true
  | .cons s r => okS sc s && okSs sc r
end
end
section
variable (cA : Str → Addr) (cl : Nat → List D → G → R D) (tab : Nat → Option FnI) (lm : Lm) (sx : Str → Option Str) (k : Nat) (sg : Nat → Option Sig)
mutual
theorem snd_S (HS : TabOk sg tab) : ∀ s : S, ∀ (X : Cx) (W : WX), EnvS X cA W cl tab lm sx k → okS sg sx X.N lm X.env.scope s = true → PS X s.py (tS X.K cA W (exe cl s))
  | .asg i x px e p => fun X W C h => by
    obtain ⟨h', h4⟩ := and2 (show (okE sg X.N lm X.env.scope e && decide (X.N[i]? = some x) && locB X.env.scope x && asgOk X.env.scope x px e) = true from h)
    obtain ⟨h', h3⟩ := and2 h'
    obtain ⟨h1, h2⟩ := and2 h'
    cases hl : e.isLc with
    | false => exact s_set C (of_decide_eq_true h2) (locB_ok h3) (sw_plain hl _ _ _) (snd_E HS e X W lm C.env h1).1
    | true =>
      cases e with
      | lc elt tg it ifs scope own pos => exact asg_lc HS C (of_decide_eq_true h2) h3 h4 h1
      | lc2 elt tg it ifs tg1 it1 ifs1 scope own vs1 pos => exact asg_lc2 HS C (of_decide_eq_true h2) h3 h4 h1
      | _ => cases hl
  | .par2 i j x y px py pt kt a b k2 pt2 p => fun X W C h => by
    obtain ⟨h', h9⟩ := and2 (show (okE sg X.N lm X.env.scope a && okE sg X.N lm X.env.scope b && decide (X.N[i]? = some x) && decide (X.N[j]? = some y) && decide (i ≠ j) && decide (x ≠ y) && decide (X.env.scope.names.lookup x = some .local) && decide (X.env.scope.names.lookup y = some .local) && swpB X.env.scope [(x, px), (y, py)] [a, b]) = true from h)
    obtain ⟨h', h8⟩ := and2 h'
    obtain ⟨h', h7⟩ := and2 h'
    obtain ⟨h', h6⟩ := and2 h'
    obtain ⟨h', h5⟩ := and2 h'
    obtain ⟨h', h4⟩ := and2 h'
    obtain ⟨h', h3⟩ := and2 h'
    obtain ⟨h1, h2⟩ := and2 h'
    exact s_par2 C (of_decide_eq_true h3) (of_decide_eq_true h4) (of_decide_eq_true h5) (of_decide_eq_true h7) (of_decide_eq_true h8) (swp2 (of_decide_eq_true h6) h9) (s_acons (es := .cons b .nil) (snd_E HS a X W lm C.env h1).1 (s_acons (es := .nil) (snd_E HS b X W lm C.env h2).1 s_anil))
  | .par3 i j l x y z px py pz pt kt a b c k2 pt2 p => fun X W C h => by
    obtain ⟨h', b7⟩ := and2 (show (okE sg X.N lm X.env.scope a && okE sg X.N lm X.env.scope b && okE sg X.N lm X.env.scope c && decide (X.N[i]? = some x) && decide (X.N[j]? = some y) && decide (X.N[l]? = some z) && decide (i ≠ j) && decide (i ≠ l) && decide (j ≠ l) && decide (x ≠ y) && decide (x ≠ z) && decide (y ≠ z) &&
      decide (X.env.scope.names.lookup x = some .local) && decide (X.env.scope.names.lookup y = some .local) && decide (X.env.scope.names.lookup z = some .local) && swpB X.env.scope [(x, px), (y, py), (z, pz)] [a, b, c]) = true from h)
    obtain ⟨h', b6⟩ := and2 h'
    obtain ⟨h', b5⟩ := and2 h'
    obtain ⟨h', b4⟩ := and2 h'
    obtain ⟨h', b3⟩ := and2 h'
    obtain ⟨h', b2⟩ := and2 h'
    obtain ⟨h', b1⟩ := and2 h'
    obtain ⟨h', a9⟩ := and2 h'
    obtain ⟨h', a8⟩ := and2 h'
    obtain ⟨h', a7⟩ := and2 h'
    obtain ⟨h', a6⟩ := and2 h'
    obtain ⟨h', a5⟩ := and2 h'
    obtain ⟨h', a4⟩ := and2 h'
    obtain ⟨h', a3⟩ := and2 h'
    obtain ⟨a1, a2⟩ := and2 h'
    exact s_par3 C (of_decide_eq_true a4) (of_decide_eq_true a5) (of_decide_eq_true a6) (of_decide_eq_true a7) (of_decide_eq_true a8) (of_decide_eq_true a9) (of_decide_eq_true b4) (of_decide_eq_true b5) (of_decide_eq_true b6) (swp3 (of_decide_eq_true b1) (of_decide_eq_true b2) (of_decide_eq_true b3) b7)
      (s_acons (es := .cons b (.cons c .nil)) (snd_E HS a X W lm C.env a1).1 (s_acons (es := .cons c .nil) (snd_E HS b X W lm C.env a2).1 (s_acons (es := .nil) (snd_E HS c X W lm C.env a3).1 s_anil)))
  | .rse x px f e p1 p => fun X W C h => by
    obtain ⟨h', h3⟩ := and2 (show (okE sg X.N lm X.env.scope e && gloB X.env.scope x && decide (sx x = some f)) = true from h)
    obtain ⟨h1, h2⟩ := and2 h'
    exact s_rse C h2 (of_decide_eq_true h3) (snd_E HS e X W lm C.env h1).1
  | .unp tg e p => fun X W C h => by
    obtain ⟨h', h4⟩ := and2 (show (okE sg X.N lm X.env.scope e && tg.ok X.N X.env.scope && noSw X.env.scope tg e && (tg.isTup || !e.isLc)) = true from h)
    obtain ⟨h', h3⟩ := and2 h'
    obtain ⟨h1, h2⟩ := and2 h'
    exact s_unp C h2 (fnOk_all C tg) (sw_unp h4 _ _) (noSw_ok h3) (snd_E HS e X W lm C.env h1).1
  | .put o i v p' p => fun X W C h => by
    obtain ⟨h', h4⟩ := and2 (show (okE sg X.N lm X.env.scope o && okE sg X.N lm X.env.scope i && okE sg X.N lm X.env.scope v && !v.isLc) = true from h)
    obtain ⟨h', h3⟩ := and2 h'
    obtain ⟨h1, h2⟩ := and2 h'
    exact s_put C (by simpa using h4) (snd_E HS o X W lm C.env h1).1 (snd_E HS i X W lm C.env h2).1 (snd_E HS v X W lm C.env h3).1
  | .aug i x px op e p => fun X W C h => by
    obtain ⟨h', h3⟩ := and2 (show (okE sg X.N lm X.env.scope e && decide (X.N[i]? = some x) && locB X.env.scope x) = true from h)
    obtain ⟨h1, h2⟩ := and2 h'
    exact s_aug C (of_decide_eq_true h2) (locB_ok h3) (snd_E HS e X W lm C.env h1).1
  | .exp e p => fun X W C h => by
    obtain ⟨h1, h2⟩ := and2 (show (okE sg X.N lm X.env.scope e && !e.isLc) = true from h)
    exact s_exp (by simpa using h2) (snd_E HS e X W lm C.env h1).1
  | .ret e p => fun X W C h => s_ret (snd_E HS e X W lm C.env h).1
  | .ifs c a b p => fun X W C h => by
    obtain ⟨h', h3⟩ := and2 (show (okE sg X.N lm X.env.scope c && okSs sg sx X.N lm X.env.scope a && okSs sg sx X.N lm X.env.scope b) = true from h)
    obtain ⟨h1, h2⟩ := and2 h'
    exact s_ifs (snd_E HS c X W lm C.env h1).2 (snd_Ss HS a X W C h2) (snd_Ss HS b X W C h3)
  | .whl c a p => fun X W C h => by
    obtain ⟨h1, h2⟩ := and2 (show (okE sg X.N lm X.env.scope c && okSs sg sx X.N lm X.env.scope a) = true from h)
    exact s_whl C (snd_E HS c X W lm C.env h1).2 (snd_Ss HS a X W C h2)
  | .forr tg it a p => fun X W C h => by
    obtain ⟨h', h4⟩ := and2 (show (okI sg X.N lm X.env.scope it && tg.ok X.N X.env.scope && (tg.isTup || it.nm) && okSs sg sx X.N lm X.env.scope a) = true from h)
    obtain ⟨h', h3⟩ := and2 h'
    obtain ⟨h1, h2⟩ := and2 h'
    exact s_forr C (snd_I HS it X W lm C.env h1 tg h3) (s_tg C.env.calm C.env.nd tg h2 (fnOk_all C tg)) (snd_Ss HS a X W C h4)
  | .pas p => fun X W C h => s_pas
theorem snd_Ss (HS : TabOk sg tab) : ∀ ss : Ss, ∀ (X : Cx) (W : WX), EnvS X cA W cl tab lm sx k → okSs sg sx X.N lm X.env.scope ss = true → PSs X ss.pys (tS X.K cA W (exes cl ss))
  | .nil => fun X W C h => s_nil
  | .cons s r => fun X W C h => by
    obtain ⟨h1, h2⟩ := and2 (show (okS sg sx X.N lm X.env.scope s && okSs sg sx X.N lm X.env.scope r) = true from h)
    exact s_cons (snd_S HS s X W C h1) (snd_Ss HS r X W C h2)
end
end
end PD
set_option Elab.async false
set_option linter.all false
set_option maxRecDepth 100000
set_option maxHeartbeats 4000000
/-! PD15: the table of defs; every def keeps to its meaning. -/
namespace PD
open PySem PySem.Spec PyProof.Rows L2
variable [Tb]
/-- a def -/
structure FunT where
  x : Str
  args : Arguments
  ps : List Str
  N : List Str
  kss : List (List Str × List Nat)
  scope : Scope
  lm : Lm
  body : Ss
abbrev Tab := Nat → Option FunT
/-- the end of a def's body -/
def SR.fin : SR → R D
  | .nx _ g => .ok .non g
  | .rt d g => .ok d g
  | .ex c fs _ g => .ex c fs g
  | .bad => .bad
def startD (n : Nat) (ds : List D) : Sl := ds.map some ++ List.replicate (n - ds.length) none
def runF (T : Tab) : Nat → Nat → List D → G → R D
  | 0, _, _, _ => .bad
  | n + 1, i, ds, g => match T i with
    | some F => if ds.length = F.ps.length then (exes (runF T n) F.body (startD F.N.length ds) g).fin else .bad
    | none => .bad
def Tab.sg (T : Tab) : Nat → Option Sig := fun i => (T i).map fun F => ⟨F.x, F.ps.length, F.kss⟩
def Tab.inf (T : Tab) (fa : Nat → Addr) (fd : Nat → FuncData) : Nat → Option FnI := fun i => (T i).map fun F => ⟨F.x, fa i, fd i, F.ps, F.kss⟩
theorem Tab.ok (T : Tab) (fa : Nat → Addr) (fd : Nat → FuncData) : TabOk T.sg (T.inf fa fd) := fun i q h => by
  cases e : T i with
  | none => rw [Tab.sg, e] at h; cases h
  | some F =>
    rw [Tab.sg, e] at h
    cases h
    exact ⟨⟨F.x, fa i, fd i, F.ps, F.kss⟩, by rw [Tab.inf, e]; rfl, rfl, rfl, rfl⟩
theorem start_rp {K : PySem.W.Frag} {A : List Addr} {H : Hp} {ds : List D} {vs : List V} {N : List Str} (h : RpL K A H ds vs) : LcR K A H (startD N.length ds) (L2.start N vs) := by
  have hl := h.len
  refine ⟨by unfold startD L2.start; rw [List.length_append, List.length_append, List.length_map, List.length_map, List.length_replicate, List.length_replicate, hl], fun i d e => ?_⟩
  unfold startD at e
  unfold L2.start
  by_cases hi : i < ds.length
  · rw [List.getElem?_append_left (by rw [List.length_map]; exact hi), List.getElem?_map] at e
    cases q : ds[i]? with
    | none => rw [q] at e; cases e
    | some d' =>
      rw [q] at e
      have e' : d' = d := by injection e with e; injection e
      subst e'
      obtain ⟨v, h1, h2⟩ := h.get q
      exact ⟨v, by rw [List.getElem?_append_left (by rw [List.length_map, ← hl]; exact hi), List.getElem?_map, h1]; rfl, h2⟩
  · rw [List.getElem?_append_right (by rw [List.length_map]; omega), List.getElem?_replicate] at e
    split at e <;> cases e
theorem fin_sat {K : PySem.W.Frag} {cA : Str → Addr} {A : List Addr} {H : Hp} {r : SR} {Q : VK} {E : XK} (h : r.fin.sat (GoD K A H Q) (XP K cA (fun cls d _ H => E cls d H) A H [])) :
    r.sat (GoN K A H fun _ H' => Q .non H') (GoD K A H Q) (XS K cA (fun cls d _ H => E cls d H) A H) := by
  cases r with
  | nx δ g => exact fun A' H' σ' n r l => h A' H' .non n r .non
  | rt d g => exact h
  | ex c fs δ g => exact fun A' H' σ' dd fvs n r l e f => h A' H' dd fvs n r e f
  | bad => exact h
theorem spI_len {K : PySem.W.Frag} {cA : Str → Addr} {cl : Nat → List D → G → R D} {n i : Nat} : ∀ vs H Q E, spI K cA cl n i vs H Q E → vs.length = n := fun _ _ _ _ h => h.1
/-- what the defs and classes of the text are known to be -/
structure Txt (P : Program) (w : World) (K : PySem.W.Frag) (mg : Str → Option Value) (base : Heap) (cA : Str → Addr) (T : Tab) (sx : Str → Option Str) (fa : Nat → Addr) (fd : Nat → FuncData) : Prop where
  fund : ∀ i F, T i = some F → FunD K F.x F.x F.args F.body.pys F.scope [] [] (fa i) (fd i)
  glo : ∀ i F, T i = some F → mg F.x = some (.ref (fa i))
  scp : ∀ i F, T i = some F → FnScope F.N F.ps F.scope
  bnd : ∀ i F, T i = some F → Binds K (fd i) F.ps []
  kbs : ∀ i F ks idx, T i = some F → (ks, idx) ∈ F.kss → idx.length = F.ps.length ∧ ∀ (s : Shared) (ws : List Value), K.In s.heap → ws.length = ks.length → BindsTo s (fd i) ⟨[], ks.zip ws⟩ (F.ps.zip (idx.map fun j => ws.getD j .none))
  okb : ∀ i F, T i = some F → okSs T.sg sx F.N F.lm F.scope F.body = true
  nob : ∀ b : B, mg b.nm = none
  nor : mg "range" = none ∧ mg "zip" = none ∧ mg "enumerate" = none
  lam : ∀ i F m, T i = some F → F.lm = some m → ∀ (oc : Value) (od : Option Addr) (osl : Array (Option Value)), K.lookup (fa i) = some ⟨oc, od, .func (fd i), osl⟩ → ∀ (k : Nat) (A : Around) (outer : List Env) (s : Shared) (H : Hp) (E : XK), Room (k + 2) (A.deeper (envOfC F.x F.scope s.heap.objs.size (fa i) (fd i).code)) →
    LamC (cxOf (L2.CX P w) P w K mg base F.N F.x F.scope (fa i) (fd i).code A outer s H E) cA m k
  exs : ∀ x f, sx x = some f → OexC K (cA x) ∧ mg x = some (.ref (cA x)) ∧ ∃ fI fd ps, PySem.W.findIn K (.ref (cA x)) "__init__" = some (some (.ref fI)) ∧ PySem.W.typeIn K (.ref fI) = some (.type "function") ∧ FnOk P w K mg base (L2.CX P w) 2 fI fd ps (spX (cA x) f) ∧ Binds K fd ps []
section
variable {P : Program} {w : World} {K : PySem.W.Frag} {mg : Str → Option Value} {base : Heap} {cA : Str → Addr} {T : Tab} {sx : Str → Option Str} {fa : Nat → Addr} {fd : Nat → FuncData}
theorem inf_at {i : Nat} {F : FnI} (h : T.inf fa fd i = some F) : ∃ F', T i = some F' ∧ F = ⟨F'.x, fa i, fd i, F'.ps, F'.kss⟩ := by
  cases e : T i with
  | none => rw [Tab.inf, e] at h; cases h
  | some F' => rw [Tab.inf, e] at h; cases h; exact ⟨F', rfl, rfl⟩
/-- the context of a def's body -/
theorem Txt.env (X : Txt P w K mg base cA T sx fa fd) {k n i : Nat} {F : FunT} (ih : ∀ i F, T i = some F → FnOk P w K mg base (L2.CX P w) k (fa i) (fd i) F.ps (spI K cA (runF T n) F.ps.length i)) (hF : T i = some F) (hk : 3 ≤ k)
    {oc : Value} {od : Option Addr} {osl : Array (Option Value)} (lk : K.lookup (fa i) = some ⟨oc, od, .func (fd i), osl⟩) {A : Around} {outer : List Env} {s : Shared} {H : Hp} {E : XK} (hr : Room (k + 2) (A.deeper (envOfC F.x F.scope s.heap.objs.size (fa i) (fd i).code))) :
    EnvS (cxOf (L2.CX P w) P w K mg base F.N F.x F.scope (fa i) (fd i).code A outer s H E) cA (fun cls d _ H => E cls d H) (runF T n) (T.inf fa fd) F.lm sx k := by
  refine ⟨⟨rfl, (X.scp i F hF).nd, hr.mono (by omega), takes_of rfl rfl rfl rfl, X.nob, X.nor, fun i F h => ?_, fun i F ks idx h hm => ?_, fun m hm => X.lam i F m hF hm oc od osl lk k A outer s H E hr⟩, passes_of rfl, fun _ => rfl, fun x f h => ?_⟩
  · obtain ⟨F', e, rfl⟩ := inf_at h
    exact ⟨X.glo i F' e, (X.fund i F' e).kp, X.bnd i F' e, ih i F' e⟩
  · obtain ⟨F', e, rfl⟩ := inf_at h
    exact X.kbs i F' ks idx e hm
  · obtain ⟨h1, h2, fI, fd', ps', h3, h4, h5, h6⟩ := X.exs x f h
    exact ⟨h1, h2, fI, fd', ps', 2, h3, h4, h5, h6, hk⟩
theorem Txt.fn_all (X : Txt P w K mg base cA T sx fa fd) : ∀ n i F, T i = some F → FnOk P w K mg base (L2.CX P w) (3 * n + 4) (fa i) (fd i) F.ps (spI K cA (runF T n) F.ps.length i)
  | 0, i, F, h => ⟨fun vs H Q E q => q.1, fun A outer s H args us vs Q E hr e0 hb r q => by
    obtain ⟨_, A', g, ds, _, _, q⟩ := q
    exact absurd q id⟩
  | n + 1, i, F, h => by
    have ih := X.fn_all n
    obtain ⟨oc, od, dV, kV, doc, pm, an, cdv, ct, osl, ef, lk, hcd, _, _⟩ := (X.fund i F h).ex
    have ec : (fd i).code = cdv := by rw [ef]
    have C := fun (A : Around) (outer : List Env) (s : Shared) (H : Hp) (E : XK) hr => X.env (A := A) (outer := outer) (s := s) (H := H) (E := E) ih h (by omega) lk hr
    rw [ec] at C
    rw [ef]
    rw [ef] at lk
    refine fn_of (k := 3 * n + 6) lk hcd (X.scp i F h) (fun vs H Q E q => q.1) fun A outer s H vs Q E hr q => ?_
    refine ⟨_, snd_Ss cA (runF T n) (T.inf fa fd) F.lm sx (3 * n + 4) T.sg (T.ok fa fd) F.body _ _ (C A outer s H E hr) (X.okb i F h), ?_⟩
    obtain ⟨hl, A', g, ds, r, rl, q⟩ := q
    refine ⟨A', g, startD F.N.length ds, r, start_rp rl, fin_sat ?_⟩
    have e : runF T (n + 1) i ds g = (exes (runF T n) F.body (startD F.N.length ds) g).fin := by
      show (match T i with
        | some F => if ds.length = F.ps.length then (exes (runF T n) F.body (startD F.N.length ds) g).fin else .bad
        | none => .bad) = _
      rw [h]
      exact if_pos (by rw [rl.len]; exact hl)
    rw [e] at q
    exact q
end
end PD
set_option Elab.async false
set_option linter.all false
set_option maxRecDepth 100000
set_option maxHeartbeats 4000000
/-! PD16: several clauses 'except x as n'. -/
namespace PD
open PySem PySem.Spec PyProof.Rows L2
/-- a suite's reading: by the exception, its class, its dict -/
abbrev TSx := Addr → Value → Option Addr → TS
/-- the ends of a suite: the name is gone behind it -/
def gone (i : Nat) (D : Ends) : Ends := { nx := fun σ H => D.nx (σ.set i none) H, rt := D.rt, bk := fun σ H => D.bk (σ.set i none) H, ct := fun σ H => D.ct (σ.set i none) H }
/-- what the clauses wish of an exception of the body, one after the other; slot i is the name's -/
def wAss (K : PySem.W.Frag) (i : Nat) (W : WX) (D : Ends) : List (Value × TSx) → WX
  | [] => W
  | q :: r => fun cls d σ H => ∃ b, PySem.W.exmOne K cls q.1 = some b ∧ (b = true → ∀ a, H a = none → q.2 a cls d (gone i D) (σ.set i (some (.ref a))) H) ∧ (b = false → wAss K i W D r cls d σ H)
/-- one clause -/
structure ClauseOk (X : Cx) (n : Str) (h : ExceptHandler) (q : Value × TSx) : Prop where
  form : ∃ (x : Str) (b₀ : Stmt) (suite : List Stmt) (p1 p2 : Pos), h = .ExceptHandler (some (.Name x p1)) (some n) (b₀ :: suite) p2 ∧ Names X x q.1 ∧
    ∀ (a : Addr) (o : Obj) (cls : Value) (d : Option Addr) (more : List (Addr × Obj)), Zc cls d o → (∃ vs, o.data = .fields vs) → PSs (X.suite a ((a, o) :: more)) (b₀ :: suite) (q.2 a cls d)
section
variable {X : Cx} {n : Str} {i : Nat} {pins : List (Addr × Obj)} {D : Ends} {W : WX}
/-- an exception at a has come to the try statement: the state, the exception's object in flight over the frames -/
structure Fallen (X : Cx) (pins : List (Addr × Obj)) (a : Addr) (cls : Value) (d : Option Addr) (σ : L2.St) (H : Hp) (B : Heap) (s : Shared) : Prop where
  inv : ∀ s' : Shared, s'.os = s.os → s'.gens = s.gens → (∀ z : B.StaysIn s'.heap, s.heap.UpToSlots s'.heap → Inv X pins σ H s')
  fly : HandSPX.FlyingZ B (X.env :: X.outer) a (Zc cls d) s.heap
  nH : H a = none
  far : a ≠ X.env.locals ∧ a ∉ X.fs
theorem upSelf (h : Heap) : h.UpToSlots h := Heap.UpToSlots.refl _
theorem Fallen.now {a : Addr} {cls : Value} {d : Option Addr} {σ : L2.St} {H : Hp} {B : Heap} {s : Shared} (F : Fallen X pins a cls d σ H B s) : Inv X pins σ H s := F.inv s rfl rfl F.fly.1 (upSelf _)
/-- .. as its suite sees it -/
theorem Fallen.seen {a : Addr} {cls : Value} {d : Option Addr} {σ : L2.St} {H : Hp} {B : Heap} {s : Shared} (F : Fallen X pins a cls d σ H B s) :
    ∃ (o : Obj) (vs : Array Value), s.heap.get? a = some o ∧ Zc cls d o ∧ o.data = .fields vs ∧ Inv (X.suite a ((a, o) :: (X.pn ++ pins))) [] σ H s := by
  obtain ⟨o, vs, at_, zc, dat⟩ := F.fly.there
  exact ⟨o, vs, at_, zc, dat, F.now.suite at_ dat F.nH F.far.1 F.far.2⟩
/-- the clause's class is looked up -/
theorem clause_cls {x : Str} {c : Value} {a : Addr} {o : Obj} {σ : L2.St} {H : Hp} {s : Shared} {p1 : Pos} {Q : Value → Shared → Prop} {E : Value → Shared → Prop} (N : Names X x c) (S : Inv (X.suite a ((a, o) :: (X.pn ++ pins))) [] σ H s)
    (hQ : Q c s) : wpAny (model X.prog X.w) (X.A.mark (some (.ref a))) (eval (.Name x p1) X.env) Q E s := by
  obtain ⟨gl, nd, own⟩ := N
  rcases own with own | ⟨free, built, nn⟩
  · exact ld_glob (X := X.suite a ((a, o) :: (X.pn ++ pins))) S gl own hQ nd
  · exact ld_blt (X := X.suite a ((a, o) :: (X.pn ++ pins))) S gl free built hQ nn nd
/-- what a suite's end becomes -/
theorem suite_end {a : Addr} {o : Obj} {p2 : Pos} {f : Flow} {t : Shared} (ok : X.Ok) (hN : X.N.Nodup) (hi : X.N[i]? = some n) (hl : X.env.kindOf n = some .local) (hf : SP (X.suite a ((a, o) :: (X.pn ++ pins))) [] (gone i D) f t) :
    wpAny (model X.prog X.w) X.A (do bindName X.env n .none; unbindBehindTheSuite X.env n p2) (fun _ t' => SP X pins D f t') X.xe t := by
  have out : ∀ {τ : L2.St} {J : Hp}, Inv (X.suite a ((a, o) :: (X.pn ++ pins))) [] τ J t → (∀ t', Inv X pins (τ.set i none) J t' → SP X pins D f t') → wpAny (model X.prog X.w) X.A (do bindName X.env n .none; unbindBehindTheSuite X.env n p2) (fun _ t' => SP X pins D f t') X.xe t :=
    fun S k => gone_ok (S.unsuite ok) hN hi hl k
  cases f with
  | ret u => obtain ⟨v, τ, J, S, rv, z⟩ := hf; exact out S fun t' S' => ⟨v, _, J, S', rv, z⟩
  | next => obtain ⟨τ, J, S, z⟩ := hf; exact out S fun t' S' => ⟨_, J, S', z⟩
  | brk => obtain ⟨τ, J, S, z⟩ := hf; exact out S fun t' S' => ⟨_, J, S', z⟩
  | cont => obtain ⟨τ, J, S, z⟩ := hf; exact out S fun t' S' => ⟨_, J, S', z⟩
/-- the body's end, no exception -/
theorem body_end {xe : Value → Shared → Prop} {f : Flow} {t : Shared} (ok : X.Ok) (hf : SP (X.tr (X.pn ++ pins) xe) [] D f t) : SP X pins D f t := by
  cases f with
  | ret u => obtain ⟨v, τ, J, S, rv, z⟩ := hf; exact ⟨v, τ, J, S.ofTry ok, rv, z⟩
  | next => obtain ⟨τ, J, S, z⟩ := hf; exact ⟨τ, J, S.ofTry ok, z⟩
  | brk => obtain ⟨τ, J, S, z⟩ := hf; exact ⟨τ, J, S.ofTry ok, z⟩
  | cont => obtain ⟨τ, J, S, z⟩ := hf; exact ⟨τ, J, S.ofTry ok, z⟩
/-- no clause fits: it goes on -/
theorem pass_on {a : Addr} {cls : Value} {d : Option Addr} {σ : L2.St} {H : Hp} {B : Heap} {s : Shared} (hf : X.env.frame = some X.env.locals) (F : Fallen X pins a cls d σ H B s)
    (out : ∀ s' : Shared, s'.os = s.os → s'.gens = s.gens → HandSPX.HeldZ B (X.env :: X.outer) a (Zc cls d) X.env.locals s'.heap → s.heap.UpToSlots s'.heap → X.xe (.ref a) s') : wpAny (model X.prog X.w) X.A (handleBy (.ref a) X.env []) (SP X pins D) X.xe s := by
  obtain ⟨_, _, _, o, vs, T, _, _, at_, _, dat, one, _⟩ := id F.fly
  have up : wpAny (model X.prog X.w) X.A (setFlight (.ref a) X.env.frame) (fun _ s' => wpAny (model X.prog X.w) X.A (throw (.ref a) : Sem Flow) (SP X pins D) X.xe s') X.xe s := by
    rw [hf]
    exact HandSPX.setFlight_upZ F.fly fun h held ups => wpAny_throw (out { s with heap := h } rfl rfl held ups)
  refine wpAny_handleBy_nil ?_
  show wpAny _ _ (PySem.passOn _ _ _) _ _ _
  unfold PySem.passOn
  refine wpAny_bind (wpAny_field at_ dat one ?_)
  have nt : ¬ ((Value.ref T == Value.none) = true) := by simp
  rw [if_neg nt]
  first | exact wpAny_bind (wpAny_pure (wpAny_bind up)) | exact wpAny_bind up
/-- the clauses, one behind another -/
theorem clauses {a : Addr} {cls : Value} {d : Option Addr} {σ : L2.St} {H : Hp} {B : Heap} {s : Shared} (ok : X.Ok) (hf : X.env.frame = some X.env.locals) (hN : X.N.Nodup) (hi : X.N[i]? = some n) (hl : X.env.kindOf n = some .local) (F : Fallen X pins a cls d σ H B s)
    (out : W cls d σ H → ∀ s' : Shared, s'.os = s.os → s'.gens = s.gens → HandSPX.HeldZ B (X.env :: X.outer) a (Zc cls d) X.env.locals s'.heap → s.heap.UpToSlots s'.heap → X.xe (.ref a) s') :
    ∀ {hs : List ExceptHandler} {qs : List (Value × TSx)}, Paired (ClauseOk X n) hs qs → wAss X.K i W D qs cls d σ H → wpAny (model X.prog X.w) X.A (handleBy (.ref a) X.env hs) (SP X pins D) X.xe s := by
  intro hs qs P
  induction P with
  | nil => exact fun w => pass_on hf F (out w)
  | @cons hd q hs qs C _ ih =>
    rintro ⟨b, fits, yes, no⟩
    obtain ⟨x, b₀, suite, p1, p2, rfl, nm, run⟩ := C.form
    obtain ⟨o, vs, at_, zc, dat, S⟩ := F.seen
    have typ : PySem.W.Looks (model X.prog X.w) s.heap (typeOf (.ref a)) cls := fun _ _ _ _ keep k => wpAny_typeOf_ref (keep _ _ at_) (by rw [zc.1]; exact k)
    refine wpAny_handleBy_cons (codeAny_handlers_test (clause_cls nm S ((PySem.W.exm_one F.now.kIn typ fits).here ?_))) (fun z => nomatch z)
    cases b with
    | false => exact ih (no rfl)
    | true =>
      refine codeAny_handlers_suite_as (HandSPX.lands_againZ F.fly fun h fly ups => ?_)
      have F2 : Fallen X pins a cls d σ H B { s with heap := h } := ⟨fun s' e1 e2 z u => F.inv s' e1 e2 z (ups.trans u), fly, F.nH, F.far⟩
      obtain ⟨o2, vs2, at2, zc2, dat2, S2⟩ := F2.seen
      refine store_ok (X := X.suite a ((a, o2) :: (X.pn ++ pins))) (v := .ref a) S2 hN hi (.inl hl) rfl (fun s5 S5 => ?_) (.inr hl)
      exact wpAny_mono ((run a o2 cls d (X.pn ++ pins) zc2 ⟨vs2, dat2⟩).run [] s5 _ H (gone i D) S5 (yes rfl a F.nH)) (fun f t z => suite_end ok hN hi hl z) fun _ _ z => absurd z id
theorem ps_try_ass {body : List Stmt} {h₀ : ExceptHandler} {hs : List ExceptHandler} {qs : List (Value × TSx)} {pos : Pos} {tb : WX → TS} (hst : X.stack = X.env :: X.outer) (hf : X.env.frame = some X.env.locals) (hN : X.N.Nodup) (hi : X.N[i]? = some n) (hl : X.env.kindOf n = some .local) (tk : Takes X W)
    (hb : ∀ (V : WX) (more : List (Addr × Obj)) (xe : Value → Shared → Prop), Takes (X.tr more xe) V → PassesOwn (model X.prog X.w) X.A X.env xe → PSs (X.tr more xe) body (tb V)) (P : Paired (ClauseOk X n) (h₀ :: hs) qs) :
    PS X (.Try body (h₀ :: hs) [] [] pos) (fun D σ H => tb (wAss X.K i W D qs) D σ H) := by
  refine ⟨fun pins s σ H D I h => wpAny_Try_except ?_⟩
  have ok := I.ok
  have fr : X.A.frames = some (X.env :: X.outer) := ok.frames.trans (congrArg some hst)
  refine wpAny_mono ((hb (wAss X.K i W D qs) (X.pn ++ pins) _ (fun u s' x => ?_) PassesOwn.looking).run [] s σ H D (I.toTry _) h) (fun f t z => ?_) fun e t z => z
  · obtain ⟨a, B, s0, more, τ, J, cls, d, rfl, S0, below, ups, sky, nJ, os, gens, w⟩ := x
    rw [show (X.tr (X.pn ++ pins) _).stack = X.env :: X.outer from hst] at sky
    refine Sky.land Zc.steady fr hf sky fun h fly ups2 => ?_
    have S : Inv X pins τ J s0 := S0.ofTry ok
    have notF : ∀ e ∈ X.env :: X.outer, e.frame ≠ some a := fun e he z => by
      obtain ⟨o, vs, at_, _, dat⟩ := fly.there
      obtain ⟨_, o', at', nf⟩ := fly.2.2.1.mem (List.mem_filterMap.mpr ⟨e, he, z⟩)
      rw [at_] at at'
      cases at'
      exact nf _ dat
    have F : Fallen X pins a cls d τ J B { s' with heap := h } :=
      ⟨fun t e1 e2 z u => S.landed below z ((ups.trans ups2).trans u) (e1.trans os) (by rw [e2]; exact gens), fly, nJ, fun z => notF X.env List.mem_cons_self (by rw [hf, z]), fun z => by
        obtain ⟨e, he, q⟩ := List.mem_filterMap.mp z
        exact notF e (List.mem_cons_of_mem _ he) q⟩
    refine clauses ok hf hN hi hl F (fun wout t e1 e2 held u => tk _ _ ?_) P w
    exact ⟨a, B, s0, pins, τ, J, cls, d, rfl, S, below, (ups.trans ups2).trans u, .inr (.inr (by rw [hst]; exact held)), nJ, e1.trans os, (by rw [e2]; exact gens), wout⟩
  · have z' := body_end ok z
    cases f with
    | next => exact wpAny_execs_nil z'
    | _ => exact z'
end
end PD
set_option Elab.async false
set_option linter.all false
set_option maxRecDepth 100000
set_option maxHeartbeats 4000000
/-! PD17: the def that is handed lambdas, and tells what they do. -/
namespace PD
open PySem PySem.Spec PyProof.Rows L2
variable [Tb]
/-- a clause: except c as e: return (tag, e.fld) -/
structure HT where
  c : Str
  tag : Str
  fld : Str
  p1 : Pos
  p2 : Pos
  p3 : Pos
  p4 : Pos
  p5 : Pos
  p6 : Pos
  p7 : Pos
  j : Nat
  kk : Nat
def HT.py (e : Str) (h : HT) : ExceptHandler := .ExceptHandler (some (.Name h.c h.p1)) (some e) [.Return (some (.Tuple [.Constant (.str h.tag) h.j h.p2, .Attribute (.Name e h.p3) h.fld h.p4] h.kk h.p5)) h.p6] h.p7
def HT.key (h : HT) : Str × Str × Str := (h.c, h.tag, h.fld)
/-- its text: a the parameter -/
structure MT where
  a : Str
  e : Str
  h : HT
  hs : List HT
  p1 : Pos
  p2 : Pos
  p3 : Pos
  p4 : Pos
  p5 : Pos
  p6 : Pos
  j : Nat
  kk : Nat
def MT.py (m : MT) : List Stmt := [.Try [.Return (some (.Tuple [.Constant (.str "told") m.j m.p1, .Call (.Name m.a m.p2) [] [] m.p3] m.kk m.p4)) m.p5] (m.h.py m.e :: m.hs.map (HT.py m.e)) [] [] m.p6]
def MT.keys (m : MT) : List (Str × Str × Str) := (m.h :: m.hs).map HT.key
/-- what is known of the classes -/
structure CatchC (K : PySem.W.Frag) (mg : Str → Option Value) (cA : Str → Addr) (cs : List Str) (q : HT) : Prop where
  mg : mg q.c = some (.ref (cA q.c))
  xf : XfC K (cA q.c)
  no : PySem.W.findIn K (.ref (cA q.c)) q.fld = some none
  ex : ∀ c ∈ cs, PySem.W.exmOne K (.ref (cA c)) (.ref (cA q.c)) = some (decide (c = q.c))
def tHan (cA : Str → Addr) (h : HT) : TSx := fun a cls d => tRet (tTup (tCons (tC (.str h.tag)) (tCons (tXf a cls d (cA h.c) h.fld (tVar 1)) tNil)))
section
variable {X : Cx} {cA : Str → Addr} {cs : List Str}
theorem han_ok {X : Cx} {e : Str} {q : HT} (C : CatchC X.K X.mg cA cs q) (hN : X.N[1]? = some e) (hl : X.env.scope.names.lookup e = some .local) (hg : X.env.scope.names.lookup q.c = some .globalImplicit) (hd : (q.c == ("__debug__" : Str)) = false) (h1 : (e == ("__debug__" : Str)) = false) (h2 : (e == ("__classdict__" : Str)) = false) :
    ClauseOk X e (q.py e) (.ref (cA q.c), tHan cA q) :=
  ⟨q.c, _, [], q.p1, q.p7, rfl, ⟨hg, hd, .inl C.mg⟩, fun a o cls d more zc hf => pss_one (ps_ret (pe_tup (pa_cons pe_str (pa_cons (pe_xf C.xf C.no zc hf (pe_var (i := 1) hN (.inl hl) h1 h2)) pa_nil))))⟩
/-- the exception's way through the clauses -/
theorem han_way {K : PySem.W.Frag} {mg : Str → Option Value} {D : Ends} {Q : VK} {c : Str} {tag fld : Str} {d : Option Addr} {σ : L2.St} {H : Hp} {dd : Addr} {fvs : List (Str × V)} {v : V} (hc : c ∈ cs) (hD : D.rt = Q) (e1 : d = some dd) (e2 : H dd = some (.xd fvs)) (e3 : fvs.lookup fld = some v)
    (hq : ∀ p, H p = none → Q (.ref p) (upd H p (.tup [.str tag, v]))) (hσ : 1 < σ.length) : ∀ qs : List HT, (∀ q ∈ qs, CatchC K mg cA cs q) → (qs.map HT.key).lookup c = some (tag, fld) → wAss K 1 (fun _ _ _ _ => False) D (qs.map fun q => (Value.ref (cA q.c), tHan cA q)) (.ref (cA c)) d σ H
  | [], _, h => by cases h
  | q :: qs, hC, h => by
    refine ⟨_, (hC q List.mem_cons_self).ex c hc, fun hb a ha => ?_, fun hb => ?_⟩
    · have e : c = q.c := of_decide_eq_true hb
      subst e
      have h' : (if (q.c == q.c) = true then some (q.tag, q.fld) else (qs.map HT.key).lookup q.c) = some (tag, fld) := by
        rw [← h]
        show _ = List.lookup q.c ((q.c, q.tag, q.fld) :: qs.map HT.key)
        rw [List.lookup_cons]
        cases q.c == q.c <;> rfl
      rw [if_pos (by simp)] at h'
      cases h'
      refine ⟨.ref a, List.getElem?_set_self hσ, rfl, rfl, dd, fvs, v, e1, e2, e3, by show 2 ≤ sizeLine; rw [sizeLine_eq]; omega, fun p hp => ?_⟩
      show D.rt _ _
      rw [hD]
      exact hq p hp
    · refine han_way hc hD e1 e2 e3 hq hσ qs (fun q hq => hC q (List.mem_cons_of_mem _ hq)) ?_
      have e : ¬ c = q.c := of_decide_eq_false hb
      rw [← h]
      show _ = List.lookup c ((q.c, q.tag, q.fld) :: qs.map HT.key)
      rw [List.lookup_cons, show (c == q.c) = false from beq_eq_false_iff_ne.mpr e]
theorem lookup_mem' {κ : Type} {c : Str} {x : κ} : ∀ {l : List (Str × κ)}, l.lookup c = some x → c ∈ l.map (·.1)
  | [], h => by cases h
  | (a, y) :: l, h => by
    rw [List.lookup_cons] at h
    cases q : c == a with
    | true => exact List.mem_cons.mpr (.inl (beq_iff_eq.mp q))
    | false => rw [q] at h; exact List.mem_cons_of_mem _ (lookup_mem' h)
theorem takes_len {Z : Cx} {V : WX} {n : Nat} (tk : Takes Z V) (hn : Z.N.length = n := by rfl) : Takes Z fun cls d σ H => σ.length = n → V cls d σ H := fun u s' ⟨a, B, s0, pins, σ, H, cls, d, e, I, r1, r2, r3, r4, r5, r6, w⟩ =>
  tk u s' ⟨a, B, s0, pins, σ, H, cls, d, e, I, r1, r2, r3, r4, r5, r6, w (I.len.trans hn)⟩
theorem met_gives {m : MT} {x : Str} {sg : Scope} {g : Addr} {cdv : Value} {q : Str} (hk : sg.kind = .function) (hne : m.a ≠ m.e) (hl : sg.names.lookup m.e = some .local) (hC : ∀ h ∈ m.h :: m.hs, CatchC X.K X.mg cA (m.keys.map (·.1)) h)
    (hg : ∀ h ∈ m.h :: m.hs, sg.names.lookup h.c = some .globalImplicit ∧ (h.c == ("__debug__" : Str)) = false) (h1 : (m.e == ("__debug__" : Str)) = false) (h2 : (m.e == ("__classdict__" : Str)) = false) :
    LamX.GivesTo X [m.a, m.e] x sg g cdv m.py m.a q (TMet X.K cA m.keys) := by
  intro f c' s H Q tl act hc h
  have nd : (cxOf C8.CX0 X.prog X.w X.K X.mg X.base [m.a, m.e] x sg g cdv X.A X.stack s H C8.E0).nox.N.Nodup := by
    show [m.a, m.e].Nodup
    simp [hne]
  refine ⟨_, pss_one (ps_try_ass (X := (cxOf C8.CX0 X.prog X.w X.K X.mg X.base [m.a, m.e] x sg g cdv X.A X.stack s H C8.E0).nox) (n := m.e) (i := 1) (W := fun _ _ _ _ => False) (qs := (m.h :: m.hs).map fun q => (Value.ref (cA q.c), tHan cA q))
      (tb := fun V D σ H => ∃ Ech : XK, (∀ cls d σ' H', Ech cls d H' → σ'.length = 2 → V cls d σ' H') ∧ σ[0]? = some (some (.ref f)) ∧ H c' = some (LamX.CodeO c' q) ∧ tl Ech H fun v H1 => ∀ p, H1 p = none → D.rt (.ref p) (upd H1 p (.tup [.str "told", v])))
      rfl rfl nd rfl hl LamX.takes0 (fun V more xe tk _ => ?_) ?_), ?_⟩
  · refine ⟨fun pins s' σ H' D I h' => ?_⟩
    obtain ⟨Ech, hW, k1, k2, k3⟩ := h'
    have hp := act (fun cls d σ H => σ.length = 2 → V cls d σ H) more xe Ech m.p2 m.p3 (takes_len tk) fun cls d σ' H' he hlen => hW cls d σ' H' he hlen
    exact (pss_one (ps_ret (pos := m.p5) (pe_tup (pos := m.p4) (x1 := m.kk) (pa_cons (pe_str (j := m.j) (pos := m.p1)) (pa_cons hp pa_nil))))).run pins s' σ H' D I ⟨k1, k2, by
      have e : (fun v H1 => ∀ p, H1 p = none → D.rt (.ref p) (upd H1 p (.tup [.str "told", v]))) = fun v H1 => ([L2.V.str "told", v] : List L2.V).length ≤ sizeLine ∧ ∀ p, H1 p = none → D.rt (.ref p) (upd H1 p (.tup [.str "told", v])) := by
        funext v H1
        exact propext ⟨fun z => ⟨by show 2 ≤ sizeLine; rw [sizeLine_eq]; omega, z⟩, fun z => z.2⟩
      rw [e] at k3
      exact k3⟩
  · have : ∀ hs : List HT, (∀ h ∈ hs, h ∈ m.h :: m.hs) → Paired (ClauseOk (cxOf C8.CX0 X.prog X.w X.K X.mg X.base [m.a, m.e] x sg g cdv X.A X.stack s H C8.E0).nox m.e) (hs.map (HT.py m.e)) (hs.map fun q => (Value.ref (cA q.c), tHan cA q)) := by
      intro hs
      induction hs with
      | nil => exact fun _ => .nil
      | cons h0 hs ih => exact fun hm => .cons (han_ok (hC h0 (hm h0 List.mem_cons_self)) rfl hl (hg h0 (hm h0 List.mem_cons_self)).1 (hg h0 (hm h0 List.mem_cons_self)).2 h1 h2) (ih fun h hh => hm h (List.mem_cons_of_mem _ hh))
    exact this (m.h :: m.hs) fun h hh => hh
  · refine ⟨_, ?_, rfl, hc, h⟩
    rintro cls d σ' H' ⟨c, tag, fld, e1, rfl, dd, fvs, v, e2, e3, e4, e5⟩ hlen
    exact han_way (lookup_mem' e1) rfl e2 e3 e4 e5 (by omega) (m.h :: m.hs) hC e1
end
end PD
set_option Elab.async false
set_option linter.all false
set_option maxRecDepth 100000
set_option maxHeartbeats 4000000
/-! PD18: a program as data; what the head tells of it makes every def keep to its meaning. -/
namespace PD
open PySem PySem.Spec PyProof.Rows L2
/-- a class with __init__(self, prm): self.f = prm -/
structure CT where
  x : Str
  f : Str
  prm : Str
  args : Arguments
  scope : Scope
  p1 : Pos
  p2 : Pos
  p3 : Pos
  p4 : Pos
def CT.body (c : CT) : List Stmt := [.Assign [.Attribute (.Name "self" c.p1) c.f c.p2] (.Name c.prm c.p3) c.p4]
structure MetT where
  x : Str
  t : MT
  args : Arguments
  scope : Scope
  lq : Str
structure PrD where
  fs : List FunT
  cs : List CT
  met : Option MetT
def FunT.defD (F : FunT) : He.DefD := ⟨(F.x, none), F.x, F.x, F.args, F.body.pys, F.scope, [], []⟩
def CT.defD (c : CT) : He.DefD := ⟨(c.x, some "__init__"), "__init__", c.x ++ ".__init__", c.args, c.body, c.scope, [], []⟩
def MetT.defD (m : MetT) : He.DefD := ⟨(m.x, none), m.x, m.x, m.args, m.t.py, m.scope, [], []⟩
def allB : List B := [.len, .abs, .any, .all, .isinstance, .int, .tuple, .list, .dict, .sum, .str, .repr, .max, .min, .sorted, .bool]
theorem allB_ok (b : B) : b ∈ allB := by cases b <;> simp [allB]
def freeN : List Str := allB.map B.nm ++ (["range", "zip", "enumerate"] : List Str)
def PrD.fn (P : PrD) : List He.DefD := P.fs.map FunT.defD ++ (P.cs.map CT.defD ++ P.met.toList.map MetT.defD)
def PrD.fa (P : PrD) : List He.Fa := P.fs.map (fun F => .glo F.x) ++ (P.cs.map (fun c => .glo c.x) ++ (P.met.toList.map (fun m => .glo m.x) ++ freeN.map .free))
def PrD.tf (P : PrD) : List He.Defn := P.met.toList.map fun m => (m.lq, none)
def PrD.T (P : PrD) : Tab := fun i => P.fs[i]?
def PrD.sx (P : PrD) : Str → Option Str := fun x => (P.cs.map fun c => (c.x, c.f)).lookup x
/-! ### classes -/
def clsB (K : PySem.W.Frag) (C : Addr) : Bool := match K.lookup C with
  | some ⟨.type t, _, .cls cd, sl⟩ => (match cd.mro, sl.toList with
    | .ref C' :: bm, [_, _, _, _, some (.builtin n), _] => decide (t = "type") && (decide (C' = C) && (decide (n = "ValueError.__new__") && (!cd.hasDel && (cd.hasDict && PySem.HandSPX.refsVE bm))))
    | _, _ => false)
  | _ => false
theorem clsB_ok {K : PySem.W.Frag} {C : Addr} (h : clsB K C = true) : ∃ nm q N bs bm sn sub ab col dd k0 k1 k2 k3 k5, K.lookup C = some (excClassObj nm q C N bs bm true sn sub ab col dd k0 k1 k2 k3 k5 "ValueError.__new__") ∧ PySem.HandSPX.refsVE bm = true := by
  unfold clsB at h
  split at h
  · rename_i t od cd sl e
    split at h
    · rename_i C' bm k0 k1 k2 k3 n k5 e1 e2
      obtain ⟨a1, h⟩ := He.ba h
      obtain ⟨a2, h⟩ := He.ba h
      obtain ⟨a3, h⟩ := He.ba h
      obtain ⟨a4, h⟩ := He.ba h
      obtain ⟨a5, a6⟩ := He.ba h
      have a1 := of_decide_eq_true a1
      have a2 := of_decide_eq_true a2
      have a3 := of_decide_eq_true a3
      subst a1 a2 a3
      obtain ⟨nm, bs, mro, ns, qn, hd, sn, sub, ab, col, del⟩ := cd
      have e1 : mro = .ref C' :: bm := e1
      have b4 : (!del) = true := a4
      have b5 : hd = true := a5
      have b6 : del = false := by simpa using b4
      clear a4 a5
      subst e1 b5 b6
      have e3 : sl = #[k0, k1, k2, k3, some (.builtin "ValueError.__new__"), k5] := by
        apply Array.toList_inj.mp
        rw [e2]
      subst e3
      exact ⟨nm, qn, ns, bs, bm, sn, sub, ab, col, od, k0, k1, k2, k3, k5, e, a6⟩
    · cases h
  · cases h
def oexB (K : PySem.W.Frag) (C : Addr) : Bool := clsB K C && (decide (PySem.W.findIn K (.ref C) "__setattr__" = some (some (.builtin "object.__setattr__"))) && (decide (PySem.W.subIn K (.ref C) (.type "BaseException") = some true) && (decide (PySem.W.typeIn K (.ref C) = some (.type "type")) && PySem.W.keepIn K (.ref C))))
theorem oexB_ok {K : PySem.W.Frag} {C : Addr} (h : oexB K C = true) : OexC K C := by
  obtain ⟨h1, h⟩ := He.ba h
  obtain ⟨h2, h⟩ := He.ba h
  obtain ⟨h3, h⟩ := He.ba h
  obtain ⟨h4, h5⟩ := He.ba h
  exact ⟨clsB_ok h1, of_decide_eq_true h2, of_decide_eq_true h3, of_decide_eq_true h4, h5⟩
def xcB (K : PySem.W.Frag) (cs : List Str) (c : CT) : Bool := oexB K (He.ga K c.x) && (decide (PySem.W.findIn K (.ref (He.ga K c.x)) c.f = some none) && (decide (PySem.W.findIn K (.ref (He.ga K c.x)) "__init__" = some (some (.ref (He.fAd K (c.x, some "__init__"))))) &&
  (decide (PySem.W.typeIn K (.ref (He.fAd K (c.x, some "__init__"))) = some (.type "function")) && (xfB K (He.ga K c.x) && cs.all fun y => decide (PySem.W.exmOne K (.ref (He.ga K y)) (.ref (He.ga K c.x)) = some (decide (y = c.x)))))))
structure XcC (K : PySem.W.Frag) (cs : List Str) (c : CT) : Prop where
  oex : OexC K (He.ga K c.x)
  no : PySem.W.findIn K (.ref (He.ga K c.x)) c.f = some none
  ini : PySem.W.findIn K (.ref (He.ga K c.x)) "__init__" = some (some (.ref (He.fAd K (c.x, some "__init__"))))
  typ : PySem.W.typeIn K (.ref (He.fAd K (c.x, some "__init__"))) = some (.type "function")
  xf : XfC K (He.ga K c.x)
  exm : ∀ y ∈ cs, PySem.W.exmOne K (.ref (He.ga K y)) (.ref (He.ga K c.x)) = some (decide (y = c.x))
theorem xcB_ok {K : PySem.W.Frag} {cs : List Str} {c : CT} (h : xcB K cs c = true) : XcC K cs c := by
  obtain ⟨h1, h⟩ := He.ba h
  obtain ⟨h2, h⟩ := He.ba h
  obtain ⟨h3, h⟩ := He.ba h
  obtain ⟨h4, h⟩ := He.ba h
  obtain ⟨h5, h6⟩ := He.ba h
  exact ⟨oexB_ok h1, of_decide_eq_true h2, of_decide_eq_true h3, of_decide_eq_true h4, xfB_ok h5, fun y hy => of_decide_eq_true (List.all_eq_true.mp h6 y hy)⟩
def PrD.ex (P : PrD) (K : PySem.W.Frag) : Bool := P.cs.all fun c => xcB K (P.cs.map (·.x)) c
section
variable {P : Program} {w : World} {K : PySem.W.Frag} {mg : Str → Option Value} {base : Heap}
theorem init_ok {c : CT} {q : Str} {C fI : Addr} {fd : FuncData} (F : FunD K "__init__" q c.args c.body c.scope [] [] fI fd) (S : FnScope ["self", c.prm] ["self", c.prm] c.scope) (h1 : (c.prm == ("__debug__" : Str)) = false) (h2 : (c.prm == ("__classdict__" : Str)) = false)
    (hl : c.scope.names.lookup ("self" : Str) = some .local) (hp : c.scope.names.lookup c.prm = some .local) (O : OexC K C) (no : PySem.W.findIn K (.ref C) c.f = some none) : FnOk P w K mg base (L2.CX P w) 2 fI fd ["self", c.prm] (spX C c.f) := by
  refine FunD.ok (k := 1) F S (fun vs H Q E h => ?_) fun cdv A outer s H vs Q E hr h => ⟨tOst K c.f (tVar 0) (tVar 1), ?_, ?_⟩
  · obtain ⟨a, v, rfl, _⟩ := h; rfl
  · exact pss_one (ps_ost (pe_var (i := 0) rfl (.inl hl)) (pe_var (i := 1) rfl (.inl hp) h1 h2))
  · obtain ⟨a, v, rfl, ha, q⟩ := h
    exact ⟨v, rfl, .ref a, rfl, a, C, rfl, O, no, .inl ⟨ha, q⟩⟩
end
/-! ### the whole -/
def FunT.scB (F : FunT) : Bool := decide (F.scope.kind = .function) && (!F.scope.isCoroutine && (!F.scope.isGenerator && (decide F.N.Nodup && (decide (F.N.take F.ps.length = F.ps) && ((F.ps.all fun x => decide (F.scope.names.lookup x = some .local) || decide (F.scope.names.lookup x = some .cell)) && F.scope.names.all fun y => !decide (y.2 = .free))))))
theorem scB_ok {N ps : List Str} {sc : Scope} (h : (decide (sc.kind = .function) && (!sc.isCoroutine && (!sc.isGenerator && (decide N.Nodup && (decide (N.take ps.length = ps) && ((ps.all fun x => decide (sc.names.lookup x = some .local) || decide (sc.names.lookup x = some .cell)) && sc.names.all fun y => !decide (y.2 = .free))))))) = true) : FnScope N ps sc := by
  obtain ⟨h1, h⟩ := He.ba h
  obtain ⟨h2, h⟩ := He.ba h
  obtain ⟨h3, h⟩ := He.ba h
  obtain ⟨h4, h⟩ := He.ba h
  obtain ⟨h5, h⟩ := He.ba h
  obtain ⟨h6, h7⟩ := He.ba h
  refine ⟨of_decide_eq_true h1, by simpa using h2, by simpa using h3, of_decide_eq_true h4, of_decide_eq_true h5, fun x hx => ?_, fun y hy z => ?_⟩
  · have := List.all_eq_true.mp h6 x hx
    rw [Bool.or_eq_true, decide_eq_true_iff, decide_eq_true_iff] at this
    exact this
  · have := List.all_eq_true.mp h7 y hy
    rw [z] at this
    simp at this
/-- how a def's arguments are bound -/
structure BndT (x q : Str) (args : Arguments) (body : List Stmt) (scope : Scope) (ps : List Str) (kss : List (List Str × List Nat)) : Prop where
  pos : ∀ (kV doc pm : Value) (an : Option Addr) (cdv ct : Value) (us : List Value), us.length = ps.length → bindArgs (PySem.W.fnOf x q args body scope .none kV doc pm an cdv ct) ⟨us, []⟩ = pure (ps.zip us)
  kws : ∀ ks idx, (ks, idx) ∈ kss → idx.length = ps.length ∧ ∀ (kV doc pm : Value) (an : Option Addr) (cdv ct : Value) (ws : List Value), ws.length = ks.length → bindArgs (PySem.W.fnOf x q args body scope .none kV doc pm an cdv ct) ⟨[], ks.zip ws⟩ = pure (ps.zip (idx.map fun j => ws.getD j .none))
def CT.okB (c : CT) : Bool := (decide (c.scope.kind = .function) && (!c.scope.isCoroutine && (!c.scope.isGenerator && (decide [("self" : Str), c.prm].Nodup && (decide ([("self" : Str), c.prm].take [("self" : Str), c.prm].length = [("self" : Str), c.prm]) && ([("self" : Str), c.prm].all (fun x => decide (c.scope.names.lookup x = some .local) || decide (c.scope.names.lookup x = some .cell)) && c.scope.names.all fun y => !decide (y.2 = .free))))))) &&
  (!(c.prm == ("__debug__" : Str)) && (!(c.prm == ("__classdict__" : Str)) && (decide (c.scope.names.lookup ("self" : Str) = some .local) && decide (c.scope.names.lookup c.prm = some .local))))
def MetT.okB (m : MetT) (cs : List CT) : Bool := (decide (m.scope.kind = .function) && (!m.scope.isCoroutine && (!m.scope.isGenerator && (decide ([m.t.a, m.t.e] : List Str).Nodup && (decide (([m.t.a, m.t.e] : List Str).take ([m.t.a] : List Str).length = [m.t.a]) && (([m.t.a] : List Str).all (fun x => decide (m.scope.names.lookup x = some .local) || decide (m.scope.names.lookup x = some .cell)) && m.scope.names.all fun y => !decide (y.2 = .free))))))) &&
  (decide (m.scope.names.lookup m.t.e = some .local) && (visB m.scope m.t.a && (!(m.t.a == ("__debug__" : Str)) && (!(m.t.a == ("__classdict__" : Str)) && (!(m.t.e == ("__debug__" : Str)) && (!(m.t.e == ("__classdict__" : Str)) &&
  ((m.t.h :: m.t.hs).all fun h => decide (m.scope.names.lookup h.c = some .globalImplicit) && (!(h.c == ("__debug__" : Str)) && cs.any fun c => decide (c.x = h.c) && decide (c.f = h.fld)))))))))
def PrD.okB (P : PrD) : Bool := (P.fs.all fun F => F.scB && (okSs P.T.sg P.sx F.N F.lm F.scope F.body && (match F.lm with
    | none => true
    | some q => (match P.met with
      | some m => decide (F.x = m.lq) && decide (q = (m.x, m.t.keys))
      | none => false)))) && (P.cs.all CT.okB && P.met.toList.all fun m => m.okB P.cs)
structure PrD.Bnd (P : PrD) : Prop where
  fs : ∀ F ∈ P.fs, BndT F.x F.x F.args F.body.pys F.scope F.ps F.kss
  cs : ∀ c ∈ P.cs, BndT "__init__" (c.x ++ ".__init__") c.args c.body c.scope ["self", c.prm] []
  met : ∀ m ∈ P.met.toList, BndT m.x m.x m.args m.t.py m.scope [m.t.a] []
end PD
set_option Elab.async false
set_option linter.all false
set_option maxRecDepth 100000
set_option maxHeartbeats 4000000
/-! PD19: from the head's facts to the law's promise. -/
namespace PD
open PySem PySem.Spec PyProof.Rows L2
/-- the one table -/
def PrD.tb (P : PrD) (K : PySem.W.Frag) : List (Addr × Str) := P.met.toList.map fun m => ((He.cT K (m.lq, none)).2, (m.lq ++ ".<locals>.") ++ "<lambda>")
section
variable {P : PrD} {prog : Program} {w : World} {K : PySem.W.Frag} {mg : Str → Option Value} {h : Heap}
theorem glo_mem (X : K.In h) (G : h.Ns mainGlobals mg) (c : He.SaysX P.fa P.fn [] P.tf P.ex w h K) {x : Str} (hm : He.Fa.glo x ∈ P.fa) : mg x = some (.ref (He.ga K x)) := He.glo_ok X G (c.t.d.facts hm)
theorem free_mem (X : K.In h) (G : h.Ns mainGlobals mg) (c : He.SaysX P.fa P.fn [] P.tf P.ex w h K) {x : Str} (hx : x ∈ freeN) : mg x = none :=
  He.free_ok X G (c.t.d.facts (f := .free x) (by
    unfold PrD.fa
    exact List.mem_append_right _ (List.mem_append_right _ (List.mem_append_right _ (List.mem_map_of_mem hx)))))
theorem lookup_of_mem {κ : Type} {x : Str} {v : κ} : ∀ {l : List (Str × κ)}, l.lookup x = some v → (x, v) ∈ l
  | [], h => by cases h
  | (a, y) :: l, h => by
    rw [List.lookup_cons] at h
    cases q : x == a with
    | true => rw [q] at h; cases h; rw [beq_iff_eq.mp q]; exact List.mem_cons_self
    | false => rw [q] at h; exact List.mem_cons_of_mem _ (lookup_of_mem h)
theorem bnd_of {x q : Str} {args : Arguments} {body : List Stmt} {scope : Scope} {ps : List Str} {kss : List (List Str × List Nat)} {f : Addr} {fd : FuncData} (B : BndT x q args body scope ps kss) (F : FunD K x q args body scope [] [] f fd) : Binds K fd ps [] := F.bindsN B.pos
theorem kbs_of {x q : Str} {args : Arguments} {body : List Stmt} {scope : Scope} {ps : List Str} {kss : List (List Str × List Nat)} {f : Addr} {fd : FuncData} (B : BndT x q args body scope ps kss) (F : FunD K x q args body scope [] [] f fd) :
    ∀ ks idx, (ks, idx) ∈ kss → idx.length = ps.length ∧ ∀ (s : Shared) (ws : List Value), K.In s.heap → ws.length = ks.length → BindsTo s fd ⟨[], ks.zip ws⟩ (ps.zip (idx.map fun j => ws.getD j .none)) := fun ks idx hm => by
  obtain ⟨h1, h2⟩ := B.kws ks idx hm
  refine ⟨h1, fun s ws _ hl => ?_⟩
  obtain ⟨oc, od, dV, kV, doc, pm, an, cdv, ct, osl, rfl, lk, hcd, hD, hK⟩ := F.ex
  rcases hD with ⟨_, rfl⟩ | ⟨e, _⟩
  · exact .of_eq (h2 kV doc pm an cdv ct ws hl)
  · exact absurd rfl e
/-- everything of the text is known -/
theorem txt_of (X : K.In h) (G : h.Ns mainGlobals mg) (hok : P.okB = true) (hb : P.Bnd) (c : He.SaysX P.fa P.fn [] P.tf P.ex w h K) : ∃ fd : Nat → FuncData, (∀ i F, P.fs[i]? = some F → FunD K F.x F.x F.args F.body.pys F.scope [] [] (He.ga K F.x) (fd i)) ∧ ∀ base : Heap, K.In base → (∀ p ∈ P.tf.map (He.cT K), LamX.TabB base mg p.1 p.2) →
    letI : Tb := ⟨P.tb K⟩
    Txt prog w K mg base (He.ga K) P.T P.sx (fun i => match P.fs[i]? with | some F => He.ga K F.x | none => 0) fd := by
  obtain ⟨o1, o2⟩ := He.ba hok
  obtain ⟨o2, o3⟩ := He.ba o2
  have fOk := fun F (hF : F ∈ P.fs) => List.all_eq_true.mp o1 F hF
  have cOk := fun q (hq : q ∈ P.cs) => List.all_eq_true.mp o2 q hq
  have fun_ : ∀ F ∈ P.fs, ∃ fd, FunD K F.x F.x F.args F.body.pys F.scope [] [] (He.ga K F.x) fd := fun F hF => c.t.d.defs (d := F.defD) (by
    unfold PrD.fn
    exact List.mem_append_left _ (List.mem_map_of_mem hF))
  have all : ∀ i : Nat, ∃ fd : Option FuncData, ∀ F, P.fs[i]? = some F → ∃ d, fd = some d ∧ FunD K F.x F.x F.args F.body.pys F.scope [] [] (He.ga K F.x) d := fun i => by
    cases e : P.fs[i]? with
    | none => exact ⟨none, fun F z => nomatch z⟩
    | some F =>
      obtain ⟨d, hd⟩ := fun_ F (List.mem_of_getElem? e)
      exact ⟨some d, fun F' z => by cases z; exact ⟨d, rfl, hd⟩⟩
  obtain ⟨fdo, hfdo⟩ := Classical.axiomOfChoice all
  have dflt : FuncData := PySem.W.fnOf "" "" noArgs [] { kind := .function, names := [], isGenerator := false, isCoroutine := false, more := [] } .none .none .none .none none .none .none
  have hF : ∀ i F, P.fs[i]? = some F → FunD K F.x F.x F.args F.body.pys F.scope [] [] (He.ga K F.x) ((fdo i).getD dflt) := fun i F e => by
    obtain ⟨d, e1, e2⟩ := hfdo i F e
    rw [e1]; exact e2
  refine ⟨fun i => (fdo i).getD dflt, hF, fun base Xb TB => ?_⟩
  have at_ : ∀ {i : Nat} {F : FunT}, P.fs[i]? = some F → (match P.fs[i]? with | some F => He.ga K F.x | none => 0) = He.ga K F.x := fun {i F} e => by rw [e]
  letI tbI : Tb := ⟨P.tb K⟩
  refine ⟨fun i F e => by rw [at_ e]; exact hF i F e, fun i F e => ?_, fun i F e => ?_, fun i F e => ?_, fun i F ks idx e hm => ?_, fun i F e => ?_, fun b => ?_, ?_, fun i F m e hm oc od osl lk k A outer s H E hr => ?_, fun x f e => ?_⟩
  · rw [at_ e]
    exact glo_mem X G c (by unfold PrD.fa; exact List.mem_append_left _ (List.mem_map_of_mem (List.mem_of_getElem? e)))
  · exact scB_ok (He.ba (fOk F (List.mem_of_getElem? e))).1
  · exact bnd_of (hb.fs F (List.mem_of_getElem? e)) (hF i F e)
  · exact kbs_of (hb.fs F (List.mem_of_getElem? e)) (hF i F e) ks idx hm
  · exact (He.ba (He.ba (fOk F (List.mem_of_getElem? e))).2).1
  · exact free_mem X G c (by unfold freeN; exact List.mem_append_left _ (List.mem_map_of_mem (allB_ok b)))
  · exact ⟨free_mem X G c (by unfold freeN; exact List.mem_append_right _ (by simp)), free_mem X G c (by unfold freeN; exact List.mem_append_right _ (by simp)), free_mem X G c (by unfold freeN; exact List.mem_append_right _ (by simp))⟩
  · -- lambdas
    have q := (He.ba (He.ba (fOk F (List.mem_of_getElem? e))).2).2
    rw [hm] at q
    have q' : (match P.met with
      | some m' => decide (F.x = m'.lq) && decide (m = (m'.x, m'.t.keys))
      | none => false) = true := q
    cases em : P.met with
    | none => rw [em] at q'; cases q'
    | some m' =>
      rw [em] at q'
      obtain ⟨q1, q2⟩ := He.ba q'
      have q1 := of_decide_eq_true q1
      have q2 := of_decide_eq_true q2
      subst q2
      have hmm : m' ∈ P.met.toList := by rw [em]; simp
      obtain ⟨r1, r2⟩ := He.ba (List.all_eq_true.mp o3 m' hmm)
      obtain ⟨r2, r3⟩ := He.ba r2
      obtain ⟨r3, r4⟩ := He.ba r3
      obtain ⟨r4, r5⟩ := He.ba r4
      obtain ⟨r5, r6⟩ := He.ba r5
      obtain ⟨r6, r7⟩ := He.ba r6
      obtain ⟨r7, r8⟩ := He.ba r7
      have r2 := of_decide_eq_true r2
      have hC : ∀ h ∈ m'.t.h :: m'.t.hs, (m'.scope.names.lookup h.c = some .globalImplicit ∧ (h.c == ("__debug__" : Str)) = false) ∧ ∃ ct ∈ P.cs, ct.x = h.c ∧ ct.f = h.fld := fun hh hm => by
        obtain ⟨a1, a2⟩ := He.ba (List.all_eq_true.mp r8 hh hm)
        obtain ⟨a2, a3⟩ := He.ba a2
        obtain ⟨ct, hc1, hc2⟩ := List.any_eq_true.mp a3
        obtain ⟨b1, b2⟩ := He.ba hc2
        exact ⟨⟨of_decide_eq_true a1, by simpa using a2⟩, ct, hc1, of_decide_eq_true b1, of_decide_eq_true b2⟩
      have keysIn : ∀ y ∈ m'.t.keys.map (·.1), y ∈ P.cs.map (·.x) := fun y hy => by
        unfold MT.keys at hy
        rw [List.map_map] at hy
        obtain ⟨hh, hm2, e2⟩ := List.mem_map.mp hy
        obtain ⟨_, ct, hc1, hc2, _⟩ := hC hh hm2
        have e2 : hh.c = y := e2
        rw [← e2, ← hc2]
        exact List.mem_map_of_mem hc1
      have xc := fun ct (hct : ct ∈ P.cs) => xcB_ok (List.all_eq_true.mp c.more ct hct)
      obtain ⟨fdm, Fm⟩ := c.t.d.defs (d := m'.defD) (by
        unfold PrD.fn
        exact List.mem_append_right _ (List.mem_append_right _ (List.mem_map_of_mem hmm)))
      have Fm : FunD K m'.x m'.x m'.args m'.t.py m'.scope [] [] (He.ga K m'.x) fdm := Fm
      have bm := bnd_of (hb.met m' hmm) Fm
      have gm : mg m'.x = some (.ref (He.ga K m'.x)) := glo_mem X G c (by unfold PrD.fa; exact List.mem_append_right _ (List.mem_append_right _ (List.mem_append_left _ (List.mem_map_of_mem hmm))))
      have inT : (m'.lq, none) ∈ P.tf := by unfold PrD.tf; rw [em]; simp
      obtain ⟨oc1, od1, dV1, kV1, doc1, pm1, an1, cdv1, ct1, osl1, ef1, lk1, hcd1, _, _⟩ := (hF i F e).ex
      obtain ⟨cc, ecc⟩ := He.codeIn_ref hcd1
      have efc : ((fdo i).getD dflt).code = .ref cc := by rw [ef1]; exact ecc
      have ecode : He.codeOf K (m'.lq, none) = cc := He.codeOf_eq (p := (m'.lq, none)) (by rw [← q1]; exact lk1) efc
      refine ⟨hr, ⟨cc, (He.cT K (m'.lq, none)).2, efc, ?_, ?_, ?_⟩, ?_⟩
      · have t := TB (He.cT K (m'.lq, none)) (List.mem_map_of_mem inT)
        have e1 : (He.cT K (m'.lq, none)).1 = cc := ecode
        rw [e1] at t
        exact t
      · show _ ∈ P.tb K
        unfold PrD.tb
        rw [em]
        show ((He.cT K (m'.lq, none)).2, (F.x ++ ".<locals>.") ++ "<lambda>") ∈ [((He.cT K (m'.lq, none)).2, (m'.lq ++ ".<locals>.") ++ "<lambda>")]
        rw [q1]
        simp
      · intro p hp _
        have hp : p ∈ P.tb K := hp
        unfold PrD.tb at hp
        rw [em] at hp
        have hp : p ∈ [((He.cT K (m'.lq, none)).2, (m'.lq ++ ".<locals>.") ++ "<lambda>")] := hp
        rw [List.mem_singleton.mp hp]
        show _ = (F.x ++ ".<locals>.") ++ "<lambda>"
        rw [q1]
      · obtain ⟨oc2, od2, dV2, kV2, doc2, pm2, an2, cdv2, ct2, osl2, ef2, lk2, hcd2, _, _⟩ := Fm.ex
        rw [ef2] at lk2 bm
        have nd : m'.t.a ≠ m'.t.e := fun z => by
          have := (scB_ok r1).nd
          rw [z] at this
          simp at this
        refine ⟨He.ga K m'.x, m'.args, m'.t.py, m'.scope, dV2, kV2, doc2, pm2, cdv2, ct2, oc2, an2, od2, osl2, [m'.t.a, m'.t.e], m'.t.a, gm, Fm.kp, lk2, hcd2, bm, scB_ok r1, rfl, visB_ok r3, ?_, by simpa using r4, by simpa using r5⟩
        refine met_gives (cA := He.ga K) (scB_ok r1).kind nd r2 (fun hh hm2 => ?_) (fun hh hm2 => (hC hh hm2).1) (by simpa using r6) (by simpa using r7)
        obtain ⟨_, ct, hc1, hc2, hc3⟩ := hC hh hm2
        refine ⟨?_, by rw [← hc2]; exact (xc ct hc1).xf, by rw [← hc2, ← hc3]; exact (xc ct hc1).no, fun y hy => ?_⟩
        · rw [← hc2]
          exact glo_mem X G c (by unfold PrD.fa; exact List.mem_append_right _ (List.mem_append_left _ (List.mem_map_of_mem hc1)))
        · rw [← hc2]
          exact (xc ct hc1).exm y (keysIn y hy)
  · -- exceptions
    have hm := lookup_of_mem (show (P.cs.map fun c => (c.x, c.f)).lookup x = some f from e)
    obtain ⟨ct, hc1, hc2⟩ := List.mem_map.mp hm
    cases hc2
    have x := xcB_ok (List.all_eq_true.mp c.more ct hc1)
    obtain ⟨s1, s2⟩ := He.ba (cOk ct hc1)
    obtain ⟨s2, s3⟩ := He.ba s2
    obtain ⟨s3, s4⟩ := He.ba s3
    obtain ⟨s4, s5⟩ := He.ba s4
    obtain ⟨fdc, Fc⟩ := c.t.d.defs (d := ct.defD) (by
      unfold PrD.fn
      exact List.mem_append_right _ (List.mem_append_left _ (List.mem_map_of_mem hc1)))
    have Fc : FunD K "__init__" (ct.x ++ ".__init__") ct.args ct.body ct.scope [] [] (He.fAd K (ct.x, some "__init__")) fdc := Fc
    exact ⟨x.oex, glo_mem X G c (by unfold PrD.fa; exact List.mem_append_right _ (List.mem_append_left _ (List.mem_map_of_mem hc1))), _, fdc, ["self", ct.prm], x.ini, x.typ,
      init_ok Fc (scB_ok s1) (by simpa using s2) (by simpa using s3) (of_decide_eq_true s4) (of_decide_eq_true s5) x.oex x.no, bnd_of (hb.cs ct hc1) Fc⟩
/-- the law's claim, in plain values: whatever list of numbers is handed in, True comes back -/
def PrD.Keeps (P : PrD) (n li : Nat) : Prop := ∀ (d : D) (g : G) (ns : List Int), ns.length ≤ 63 → (∀ z ∈ ns, Builtin.Int.intBits z ≤ 1048576) → seqD d g = some (ns.map D.int) → ∃ g', runF P.T n li [d] g = .ok (.bl true) g'
theorem ints_rp {A : List Addr} {H : Hp} [Tb] : ∀ ns : List Int, RpL K A H (ns.map D.int) (ns.map V.int)
  | [] => .nil
  | i :: ns => .cons (.int i) (ints_rp ns)
theorem law_at {l : PySem.W.OpenLaw} (X : K.In h) (Gn : h.Ns mainGlobals mg) (hok : P.okB = true) (hb : P.Bnd) (c : He.SaysX P.fa P.fn [] P.tf P.ex w h K) {li n : Nat} {F : FunT} {x : Str} {fa : Addr} (hF : P.fs[li]? = some F) (hps : F.ps = [x]) (hfa : mg F.x = some (.ref fa))
    (pure : P.Keeps n li) : LamX.LawAtS l w K (L2.CX l.prog w) (3 * n + 4) 63 x mg fa h := by
  obtain ⟨fd, fF0, T⟩ := txt_of (prog := l.prog) X Gn hok hb c
  have inK : ∀ p ∈ P.tf.map (He.cT K), ∃ q ∈ P.tf, He.cT K q = p := fun p hp => List.mem_map.mp hp
  have fF := fF0 li F hF
  have efa : fa = He.ga K F.x := by
    have e := glo_mem X Gn c (x := F.x) (by unfold PrD.fa; exact List.mem_append_left _ (List.mem_map_of_mem (List.mem_of_getElem? hF)))
    rw [hfa] at e
    cases e
    rfl
  letI tbI : Tb := ⟨P.tb K⟩
  refine ⟨fd li, P.tf.map (He.cT K), spI K (He.ga K) (runF P.T n) 1 li, fun p hp => ?_, fun p hp => ?_, fun p hp => ?_, fun s u => ?_, fun H a ns hl hbits ht hs => ?_, fun base Xb _ TB => ?_⟩
  · obtain ⟨q, hq, rfl⟩ := inK p hp; exact c.empty q hq
  · obtain ⟨q, hq, rfl⟩ := inK p hp; exact c.out q hq
  · obtain ⟨q, hq, rfl⟩ := inK p hp; exact PySem.W.codeHd_of_K X (c.hd q hq)
  · have b := fF.bindsA (hb.fs F (List.mem_of_getElem? hF)).pos s [u] (by rw [hps]; rfl)
    rw [hps] at b
    exact b
  · have tabs : LamX.Tabs (P.tb K) H := fun p hp => by
      unfold PrD.tb at hp
      obtain ⟨m, hm, rfl⟩ := List.mem_map.mp hp
      exact LamX.TabS.nil (ht (He.cT K (m.lq, none)) (List.mem_map_of_mem (by unfold PrD.tf; exact List.mem_map_of_mem hm)))
    have fin : ∀ (d : D) (g : G) (A : List Addr), Rel K A g H → Rp K A H d (.ref a) → seqD d g = some (ns.map D.int) → spI K (He.ga K) (runF P.T n) 1 li [.ref a] H (fun v _ => v = .bl true) fun _ _ _ => False := fun d g A r rp e => by
      obtain ⟨g', q⟩ := pure d g ns hl hbits e
      refine ⟨rfl, A, g, [d], r, .cons rp .nil, ?_⟩
      rw [q]
      intro A' H' v _ _ rv
      cases rv
      rfl
    have ro : SqR K H a (ns.map V.int) → spI K (He.ga K) (runF P.T n) 1 li [.ref a] H (fun v _ => v = .bl true) fun _ _ _ => False := fun q =>
      fin (.ro (ns.map D.int)) [] [] ⟨rfl, List.nodup_nil, fun n o a h1 _ => by simp at h1, tabs⟩ (.ro q (ints_rp ns)) rfl
    rcases hs with (hs | ⟨o, hs⟩) | hs
    · exact fin (.ref 0) [.lst (ns.map D.int)] [a] ⟨rfl, by simp, fun n o b h1 h2 => by
        match n, h1, h2 with
        | 0, h1, h2 => cases h1; cases h2; exact ⟨_, hs, ints_rp ns⟩, tabs⟩ (.ref rfl) rfl
    · exact ro (.inl ⟨o, hs⟩)
    · exact ro (.inr hs)
  · have t := T base Xb TB
    have f := t.fn_all n li F hF
    have e : (match P.fs[li]? with | some F => He.ga K F.x | none => 0) = fa := by rw [hF, efa]
    rw [hps] at f
    have f : FnOk l.prog w K mg base (L2.CX l.prog w) (3 * n + 4) (match P.fs[li]? with | some F => He.ga K F.x | none => 0) (fd li) [x] (spI K (He.ga K) (runF P.T n) 1 li) := f
    rw [e] at f
    exact f
end
end PD
set_option Elab.async false
set_option linter.all false
set_option maxRecDepth 100000
set_option maxHeartbeats 4000000
/-! PD20: the text without places and names: the meaning is the same. -/
namespace PD
open PySem PySem.Spec PyProof.Rows L2
def p0 : Pos := ⟨0, 0, 0, 0⟩
def s0 : Scope := { kind := .function, names := [], isGenerator := false, isCoroutine := false, more := [] }
def e0 : Str := ""
mutual
def Tg.er : Tg → Tg
  | .name i _ _ => .name i e0 p0
  | .tup ts _ _ => .tup (Tg.ers ts) 0 p0
def Tg.ers : List Tg → List Tg
  | [] => []
  | t :: ts => Tg.er t :: Tg.ers ts
end
mutual
def E.er : E → E
  | .var i _ _ => .var i e0 p0
  | .typ b _ => .typ b p0
  | .num i _ _ => .num i 0 p0
  | .txt x _ _ => .txt x 0 p0
  | .boo b _ _ => .boo b 0 p0
  | .non _ _ => .non 0 p0
  | .bin op a b _ => .bin op a.er b.er p0
  | .neg a _ => .neg a.er p0
  | .nt a _ => .nt a.er p0
  | .bop k es _ => .bop k es.er p0
  | .ife c a b _ => .ife c.er a.er b.er p0
  | .cmp op a b _ => .cmp op a.er b.er p0
  | .idx a i _ => .idx a.er i.er p0
  | .slc a lo hi _ _ => .slc a.er lo.er hi.er p0 p0
  | .tup es _ _ => .tup es.er 0 p0
  | .lst es _ => .lst es.er p0
  | .dct kvs _ => .dct kvs.er p0
  | .blt b _ es _ => .blt b p0 es.er p0
  | .call f _ _ es _ => .call f e0 p0 es.er p0
  | .callK f _ _ _ idx vs _ => .callK f e0 p0 [] idx vs.er p0
  | .mth m o _ es _ => .mth m o.er p0 es.er p0
  | .get o _ k d _ => .get o.er p0 k.er d.er p0
  | .lc elt tg it ifs _ own _ => .lc elt.er tg.er it.er ifs.er s0 (own.map fun q => (e0, q.2)) p0
  | .lc2 elt tg it ifs tg1 it1 ifs1 _ own vs1 _ => .lc2 elt.er tg.er it.er ifs.er tg1.er it1.er ifs1.er s0 (own.map fun q => (e0, q.2)) vs1 p0
  | .met hs _ _ body _ _ _ => .met hs e0 p0 body.er s0 p0 p0
def Es.er : Es → Es
  | .nil => .nil
  | .cons e r => .cons e.er r.er
def Oe.er : Oe → Oe
  | .none => .none
  | .some e => .some e.er
def It.er : It → It
  | .seq e => .seq e.er
  | .rng1 _ a _ => .rng1 p0 a.er p0
  | .rng2 _ a b _ => .rng2 p0 a.er b.er p0
  | .zip _ a b _ => .zip p0 a.er b.er p0
  | .enm _ a _ => .enm p0 a.er p0
end
theorem nil_er (es : Es) : es.er.isNil = es.isNil := by cases es <;> rfl
mutual
theorem put_er : ∀ (t : Tg) (g : G) (d : D) (δ : Sl), t.er.put g d δ = t.put g d δ
  | .name _ _ _, _, _, _ => rfl
  | .tup ts _ _, g, d, δ => by
    show (match seqD d g with
      | some ds => Tg.puts (Tg.ers ts) g ds δ
      | none => none) = match seqD d g with
      | some ds => Tg.puts ts g ds δ
      | none => none
    cases seqD d g with
    | none => rfl
    | some ds => exact puts_er ts g ds δ
theorem puts_er : ∀ (ts : List Tg) (g : G) (ds : List D) (δ : Sl), Tg.puts (Tg.ers ts) g ds δ = Tg.puts ts g ds δ
  | [], _, [], _ => rfl
  | [], _, _ :: _, _ => rfl
  | _ :: _, _, [], _ => rfl
  | t :: ts, g, d :: ds, δ => by
    show (match t.er.put g d δ with
      | some δ' => Tg.puts (Tg.ers ts) g ds δ'
      | none => none) = match t.put g d δ with
      | some δ' => Tg.puts ts g ds δ'
      | none => none
    rw [put_er]
    cases t.put g d δ with
    | none => rfl
    | some δ' => exact puts_er ts g ds δ'
end
theorem own_er (own : List (Str × Nat)) : (own.map fun q => ((e0, q.2) : Str × Nat)).map (·.2) = own.map (·.2) := by rw [List.map_map]; rfl
section
variable (cl : Nat → List D → G → R D)
mutual
theorem ev_er : ∀ (e : E) (δ : Sl) (g : G), ev cl e.er δ g = ev cl e δ g
  | .var _ _ _, _, _ => rfl
  | .typ _ _, _, _ => rfl
  | .num _ _ _, _, _ => rfl
  | .txt _ _ _, _, _ => rfl
  | .boo _ _ _, _, _ => rfl
  | .non _ _, _, _ => rfl
  | .bin op a b _, δ, g => by simp only [E.er, ev, ev_er a, ev_er b]
  | .neg a _, δ, g => by simp only [E.er, ev, ev_er a]
  | .nt a _, δ, g => by simp only [E.er, ev, ev_er a]
  | .bop k es _, δ, g => by simp only [E.er, ev, evB_er k es]
  | .ife c a b _, δ, g => by simp only [E.er, ev, evT_er c, ev_er a, ev_er b]
  | .cmp op a b _, δ, g => by simp only [E.er, ev, ev_er a, ev_er b]
  | .idx a i _, δ, g => by simp only [E.er, ev, ev_er a, ev_er i]
  | .slc a lo hi _ _, δ, g => by simp only [E.er, ev, ev_er a, evO_er lo, evO_er hi]
  | .tup es _ _, δ, g => by simp only [E.er, ev, evs_er es]
  | .lst es _, δ, g => by simp only [E.er, ev, evs_er es]
  | .dct es _, δ, g => by simp only [E.er, ev, evs_er es]
  | .blt b _ es _, δ, g => by simp only [E.er, ev, evs_er es]
  | .call f _ _ es _, δ, g => by simp only [E.er, ev, evs_er es]
  | .callK f _ _ _ idx vs _, δ, g => by simp only [E.er, ev, evs_er vs]
  | .mth m o _ es _, δ, g => by simp only [E.er, ev, ev_er o, evs_er es]
  | .get o _ k d _, δ, g => by simp only [E.er, ev, ev_er o, ev_er k, ev_er d]
  | .lc elt tg it ifs _ own _, δ, g => by simp only [E.er, ev, evI_er it, put_er, evF_er ifs, ev_er elt, own_er]
  | .lc2 elt tg it ifs tg1 it1 ifs1 _ own vs1 _, δ, g => by simp only [E.er, ev, evI_er it, evI_er it1, put_er, evF_er ifs, evF_er ifs1, ev_er elt, own_er]
  | .met hs _ _ body _ _ _, δ, g => by simp only [E.er, ev, ev_er body]
theorem evT_er : ∀ (e : E) (δ : Sl) (g : G), evT cl e.er δ g = evT cl e δ g
  | .var _ _ _, _, _ => rfl
  | .typ _ _, _, _ => rfl
  | .num _ _ _, _, _ => rfl
  | .txt _ _ _, _, _ => rfl
  | .boo _ _ _, _, _ => rfl
  | .non _ _, _, _ => rfl
  | .bin op a b _, δ, g => rfl
  | .neg a _, δ, g => rfl
  | .nt a _, δ, g => by simp only [E.er, evT, evT_er a]
  | .bop k es _, δ, g => by simp only [E.er, evT, evTB_er k es]
  | .ife c a b _, δ, g => rfl
  | .cmp op a b _, δ, g => by simp only [E.er, evT, ev_er a, ev_er b]
  | .idx a i _, δ, g => by simp only [E.er, evT, ev_er a, ev_er i]
  | .slc a lo hi _ _, δ, g => rfl
  | .tup es _ _, δ, g => rfl
  | .lst es _, δ, g => rfl
  | .dct es _, δ, g => rfl
  | .blt b _ es _, δ, g => by simp only [E.er, evT, evs_er es]
  | .call f _ _ es _, δ, g => by simp only [E.er, evT, evs_er es]
  | .callK f _ _ _ idx vs _, δ, g => rfl
  | .mth m o _ es _, δ, g => rfl
  | .get o _ k d _, δ, g => rfl
  | .lc elt tg it ifs _ own _, δ, g => rfl
  | .lc2 elt tg it ifs tg1 it1 ifs1 _ own vs1 _, δ, g => rfl
  | .met hs _ _ body _ _ _, δ, g => rfl
theorem evB_er (k : Bool) : ∀ (es : Es) (δ : Sl) (g : G), evB cl k es.er δ g = evB cl k es δ g
  | .nil, _, _ => rfl
  | .cons e r, δ, g => by simp only [Es.er, evB, ev_er e, nil_er, evB_er k r]
theorem evTB_er (k : Bool) : ∀ (es : Es) (δ : Sl) (g : G), evTB cl k es.er δ g = evTB cl k es δ g
  | .nil, _, _ => rfl
  | .cons e r, δ, g => by simp only [Es.er, evTB, evT_er e, nil_er, evTB_er k r]
theorem evs_er : ∀ (es : Es) (δ : Sl) (g : G), evs cl es.er δ g = evs cl es δ g
  | .nil, _, _ => rfl
  | .cons e r, δ, g => by simp only [Es.er, evs, ev_er e, evs_er r]
theorem evF_er : ∀ (es : Es) (δ : Sl) (g : G), evF cl es.er δ g = evF cl es δ g
  | .nil, _, _ => rfl
  | .cons e r, δ, g => by simp only [Es.er, evF, evT_er e, nil_er]
theorem evO_er : ∀ (o : Oe) (δ : Sl) (g : G), evO cl o.er δ g = evO cl o δ g
  | .none, _, _ => rfl
  | .some e, δ, g => by simp only [Oe.er, evO, ev_er e]
theorem evI_er : ∀ (it : It) (δ : Sl) (g : G), evI cl it.er δ g = evI cl it δ g
  | .seq e, δ, g => by simp only [It.er, evI, ev_er e]
  | .rng1 _ a _, δ, g => by simp only [It.er, evI, ev_er a]
  | .rng2 _ a b _, δ, g => by simp only [It.er, evI, ev_er a, ev_er b]
  | .zip _ a b _, δ, g => by simp only [It.er, evI, ev_er a, ev_er b]
  | .enm _ a _, δ, g => by simp only [It.er, evI, ev_er a]
end
end
mutual
def S.er : S → S
  | .asg i _ _ e _ => .asg i e0 p0 e.er p0
  | .par2 i j _ _ _ _ _ _ a b _ _ _ => .par2 i j e0 e0 p0 p0 p0 0 a.er b.er 0 p0 p0
  | .par3 i j l _ _ _ _ _ _ _ _ a b c _ _ _ => .par3 i j l e0 e0 e0 p0 p0 p0 p0 0 a.er b.er c.er 0 p0 p0
  | .unp tg e _ => .unp tg.er e.er p0
  | .rse x _ f e _ _ => .rse x p0 f e.er p0 p0
  | .put o i v _ _ => .put o.er i.er v.er p0 p0
  | .aug i _ _ op e _ => .aug i e0 p0 op e.er p0
  | .exp e _ => .exp e.er p0
  | .ret e _ => .ret e.er p0
  | .ifs c a b _ => .ifs c.er a.er b.er p0
  | .whl c a _ => .whl c.er a.er p0
  | .forr tg it a _ => .forr tg.er it.er a.er p0
  | .pas _ => .pas p0
def Ss.er : Ss → Ss
  | .nil => .nil
  | .cons s r => .cons s.er r.er
end
section
variable (cl : Nat → List D → G → R D)
theorem for_er {w : Wk} {tg : Tg} {b c : Sl → G → SR} (h : ∀ δ g, b δ g = c δ g) : ∀ (m i : Nat) (δ : Sl) (g : G), forS w tg.er b m i δ g = forS w tg c m i δ g
  | 0, _, _, _ => rfl
  | m + 1, i, δ, g => by
    simp only [forS, put_er, h]
    split
    · rfl
    · rfl
    · split
      · congr 1
        funext δ2 g2
        exact for_er h m (i + 1) δ2 g2
      · rfl
mutual
theorem exe_er : ∀ (s : S) (δ : Sl) (g : G), exe cl s.er δ g = exe cl s δ g
  | .asg i _ _ e _, δ, g => by simp only [S.er, exe, ev_er]
  | .par2 i j _ _ _ _ _ _ a b _ _ _, δ, g => by simp only [S.er, exe, ev_er]
  | .par3 i j l _ _ _ _ _ _ _ _ a b c _ _ _, δ, g => by simp only [S.er, exe, ev_er]
  | .unp tg e _, δ, g => by simp only [S.er, exe, ev_er, put_er]
  | .rse x _ f e _ _, δ, g => by simp only [S.er, exe, ev_er]
  | .put o i v _ _, δ, g => by simp only [S.er, exe, ev_er]
  | .aug i _ _ op e _, δ, g => by simp only [S.er, exe, ev_er]
  | .exp e _, δ, g => by simp only [S.er, exe, ev_er]
  | .ret e _, δ, g => by simp only [S.er, exe, ev_er]
  | .ifs c a b _, δ, g => by simp only [S.er, exe, evT_er, exes_er a, exes_er b]
  | .whl c a _, δ, g => by
    have h1 : (evT cl c.er) = evT cl c := by funext δ g; exact evT_er cl c δ g
    have h2 : (exes cl a.er) = exes cl a := by funext δ g; exact exes_er a δ g
    simp only [S.er, exe, h1, h2]
  | .forr tg it a _, δ, g => by
    simp only [S.er, exe, evI_er]
    congr 1
    funext w g1
    exact for_er (fun δ g => exes_er a δ g) FUEL 0 δ g1
  | .pas _, _, _ => rfl
theorem exes_er : ∀ (ss : Ss) (δ : Sl) (g : G), exes cl ss.er δ g = exes cl ss δ g
  | .nil, _, _ => rfl
  | .cons s r, δ, g => by simp only [Ss.er, exes, exe_er s, exes_er r]
end
end
/-- a run, of the text without places -/
theorem run_er {T : Tab} {n i : Nat} {F : FunT} {b : Ss} {ds : List D} {g : G} (h : T i = some F) (hb : F.body.er = b) (hl : ds.length = F.ps.length) : runF T (n + 1) i ds g = (exes (runF T n) b (startD F.N.length ds) g).fin := by
  show (match T i with
    | some F => if ds.length = F.ps.length then (exes (runF T n) F.body (startD F.N.length ds) g).fin else .bad
    | none => .bad) = _
  rw [h, ← hb, exes_er]
  exact if_pos hl
end PD
set_option Elab.async false
set_option linter.all false
set_option maxRecDepth 100000
set_option maxHeartbeats 4000000
/-! PD21: from the program's text to the small language. -/
namespace PD
open PySem PySem.Spec PyProof.Rows L2
structure TrC where
  N : List Str
  fns : List (Str × List Str)
  cls : List (Str × Str)
  met : Option (Str × List (Str × Str × Str))
def ixOf (x : Str) : List Str → Nat
  | [] => 1000000
  | y :: r => if x = y then 0 else ixOf x r + 1
def bOf (x : Str) : List B → Option B
  | [] => none
  | b :: r => if x = b.nm then some b else bOf x r
def mOf (x : Str) : Option M := if x = "append" then some .append else if x = "extend" then some .extend else if x = "pop" then some .pop else if x = "index" then some .index else none
def seqO {α : Type} : List (Option α) → Option (List α)
  | [] => some []
  | none :: _ => none
  | some a :: r => (seqO r).map (a :: ·)
def toEs : List E → Es
  | [] => .nil
  | e :: r => .cons e (toEs r)
def mix {α : Type} : List α → List α → List α
  | a :: r, b :: s => a :: b :: mix r s
  | _, _ => []
def isTyB (b : B) : Bool := b.isTy
def trT (c : TrC) : Nat → PySem.Expr → Option Tg
  | 0, _ => none
  | _ + 1, .Name x p => some (.name (ixOf x c.N) x p)
  | n + 1, .Tuple es k p => (seqO (es.map (trT c n))).map fun ts => .tup ts k p
  | _ + 1, _ => none
def mapO {α β : Type} (f : α → Option β) (l : List α) : Option (List β) := seqO (l.map f)
/-- an iterable, f for its parts -/
def trI (f : PySem.Expr → Option E) : PySem.Expr → Option It
  | .Call (.Name x px) [a] [] p => if x = "range" then (f a).map fun a => .rng1 px a p else if x = "enumerate" then (f a).map fun a => .enm px a p else (f (.Call (.Name x px) [a] [] p)).map .seq
  | .Call (.Name x px) [a, b] [] p => if x = "range" then (f a).bind fun a => (f b).map fun b => .rng2 px a b p else if x = "zip" then (f a).bind fun a => (f b).map fun b => .zip px a b p else (f (.Call (.Name x px) [a, b] [] p)).map .seq
  | e => (f e).map .seq
def trE (c : TrC) : Nat → Scope → PySem.Expr → Option E
  | 0, _, _ => none
  | n + 1, sc, e => match e with
    | .Name x p => if visB sc x then some (.var (ixOf x c.N) x p) else (bOf x allB).map fun b => .typ b p
    | .Constant k j p => (match k with
      | .int i => some (.num i j p)
      | .str x => some (.txt x j p)
      | .bool b => some (.boo b j p)
      | .none => some (.non j p)
      | _ => none)
    | .BinOp a op b p => (trE c n sc a).bind fun a => (trE c n sc b).map fun b => .bin op a b p
    | .UnaryOp .USub a p => (trE c n sc a).map fun a => .neg a p
    | .UnaryOp .Not a p => (trE c n sc a).map fun a => .nt a p
    | .BoolOp op es p => (mapO (trE c n sc) es).map fun es => .bop (match op with | .And => true | .Or => false) (toEs es) p
    | .IfExp t a b p => (trE c n sc t).bind fun t => (trE c n sc a).bind fun a => (trE c n sc b).map fun b => .ife t a b p
    | .Compare a [op] [b] p => (trE c n sc a).bind fun a => (trE c n sc b).map fun b => .cmp op a b p
    | .Subscript a (.Slice lo hi none p2) p => (trE c n sc a).bind fun a => (match lo with
      | none => some Oe.none
      | some l => (trE c n sc l).map Oe.some).bind fun lo => (match hi with
      | none => some Oe.none
      | some l => (trE c n sc l).map Oe.some).map fun hi => .slc a lo hi p2 p
    | .Subscript a i p => (trE c n sc a).bind fun a => (trE c n sc i).map fun i => .idx a i p
    | .Tuple es k p => (mapO (trE c n sc) es).map fun es => .tup (toEs es) k p
    | .List es p => (mapO (trE c n sc) es).map fun es => .lst (toEs es) p
    | .Dict ks vs p => (seqO ks).bind fun ks => (mapO (trE c n sc) ks).bind fun ks => (mapO (trE c n sc) vs).map fun vs => .dct (toEs (mix ks vs)) p
    | .Call (.Name x px) [.Lambda _ b s lp] [] p => (match c.met with
      | some m => (trE c n s b).map fun b => .met m.2 x px b s lp p
      | none => none)
    | .Call (.Name x px) es [] p => (mapO (trE c n sc) es).bind fun es => (match c.fns.lookup x with
      | some _ => some (.call (ixOf x (c.fns.map (·.1))) x px (toEs es) p)
      | none => (bOf x allB).map fun b => .blt b px (toEs es) p)
    | .Call (.Name x px) [] kws p => (match c.fns.lookup x with
      | some ps => (mapO (fun k : Keyword => (trE c n sc k.value)) kws).bind fun vs => (mapO (fun k : Keyword => k.arg.map fun a => (a, k.pos)) kws).map fun ks => .callK (ixOf x (c.fns.map (·.1))) x px ks (ps.map fun q => ixOf q (ks.map (·.1))) (toEs vs) p
      | none => none)
    | .Call (.Attribute o m pa) es [] p => (match mOf m with
      | some m => (trE c n sc o).bind fun o => (mapO (trE c n sc) es).map fun es => .mth m o pa (toEs es) p
      | none => if m = "get" then (match es with
        | [k, d] => (trE c n sc o).bind fun o => (trE c n sc k).bind fun k => (trE c n sc d).map fun d => .get o pa k d p
        | _ => none) else none)
    | .ListComp elt [⟨tg, it, ifs, _⟩] scope p => (trT c n tg).bind fun tg => (trI (trE c n sc) it).bind fun it => (mapO (trE c n (relS scope sc)) ifs).bind fun ifs => (trE c n (relS scope sc) elt).map fun elt =>
        .lc elt tg it (toEs ifs) scope ((scope.names.filter fun q => locB scope q.1 && decide (q.1 ∈ c.N)).map fun q => (q.1, ixOf q.1 c.N)) p
    | .ListComp elt [⟨tg, it, ifs, _⟩, ⟨tg1, it1, ifs1, _⟩] scope p => (trT c n tg).bind fun tg => (trI (trE c n sc) it).bind fun it => (mapO (trE c n (relS scope sc)) ifs).bind fun ifs => (trT c n tg1).bind fun tg1 => (trI (trE c n (relS scope sc)) it1).bind fun it1 => (mapO (trE c n (relS scope sc)) ifs1).bind fun ifs1 => (trE c n (relS scope sc) elt).map fun elt =>
        .lc2 elt tg it (toEs ifs) tg1 it1 (toEs ifs1) scope ((scope.names.filter fun q => locB scope q.1 && decide (q.1 ∈ c.N)).map fun q => (q.1, ixOf q.1 c.N)) tg1.sl p
    | _ => none
def toSs : List S → Ss
  | [] => .nil
  | s :: r => .cons s (toSs r)
def parS (c : TrC) (t : Tg) (e : E) (p : Pos) (sc : Scope) : S := match t, e with
  | .tup [.name i x px, .name j y py] kt pt, .tup (.cons a (.cons b .nil)) k2 pt2 => if swpB sc [(x, px), (y, py)] [a, b] then .par2 i j x y px py pt kt a b k2 pt2 p else .unp t e p
  | .tup [.name i x px, .name j y py, .name l z pz] kt pt, .tup (.cons a (.cons b (.cons d .nil))) k2 pt2 => if swpB sc [(x, px), (y, py), (z, pz)] [a, b, d] then .par3 i j l x y z px py pz pt kt a b d k2 pt2 p else .unp t e p
  | .name i x px, e => .asg i x px e p
  | t, e => .unp t e p
def trS (c : TrC) (sc : Scope) : Nat → Stmt → Option S
  | 0, _ => none
  | n + 1, s => match s with
    | .Assign [.Subscript o i p'] v p => (trE c n sc o).bind fun o => (trE c n sc i).bind fun i => (trE c n sc v).map fun v => .put o i v p' p
    | .Assign [t] e p => (trT c n t).bind fun t => (trE c n sc e).map fun e => parS c t e p sc
    | .AugAssign (.Name x px) op e p => (trE c n sc e).map fun e => .aug (ixOf x c.N) x px op e p
    | .Expr e p => (trE c n sc e).map fun e => .exp e p
    | .Return (some e) p => (trE c n sc e).map fun e => .ret e p
    | .If t a b p => (trE c n sc t).bind fun t => (mapO (trS c sc n) a).bind fun a => (mapO (trS c sc n) b).map fun b => .ifs t (toSs a) (toSs b) p
    | .While t a [] p => (trE c n sc t).bind fun t => (mapO (trS c sc n) a).map fun a => .whl t (toSs a) p
    | .For t it a [] p => (trT c n t).bind fun t => (trI (trE c n sc) it).bind fun it => (mapO (trS c sc n) a).map fun a => .forr t it (toSs a) p
    | .Pass p => some (.pas p)
    | .Raise (some (.Call (.Name x px) [e] [] p1)) none p => (trE c n sc e).map fun e => .rse x px ((c.cls.lookup x).getD "") e p1 p
    | _ => none
def trSs (c : TrC) (sc : Scope) (n : Nat) (l : List Stmt) : Option Ss := (mapO (trS c sc n) l).map toSs
end PD
example (c : PD.TrC) (sc : PySem.Scope) (p : PySem.Pos) : PD.trE c 1 sc (.Constant (.int 5) 0 p) = some (.num 5 0 p) := rfl
set_option Elab.async false
set_option linter.all false
set_option maxRecDepth 100000
set_option maxHeartbeats 4000000
/-! PD22: defs and classes out of the top's statements. -/
namespace PD
open PySem PySem.Spec PyProof.Rows L2
def ctOf (x : Str) (s : Stmt) : Option CT := match s with
  | .ClassDef _ _ _ [.FunctionDef _ args [.Assign [.Attribute (.Name _ p1) f p2] (.Name prm p3) p4] _ _ _ sc _ _ _] _ _ _ _ _ _ _ => some ⟨x, f, prm, args, sc, p1, p2, p3, p4⟩
  | _ => none
def htOf : ExceptHandler → Option HT
  | .ExceptHandler (some (.Name c p1)) (some _) [.Return (some (.Tuple [.Constant (.str tag) j p2, .Attribute (.Name _ p3) fld p4] kk p5)) p6] p7 => some ⟨c, tag, fld, p1, p2, p3, p4, p5, p6, p7, j, kk⟩
  | _ => none
def mtOf (s : Stmt) : Option MT := match defBody s with
  | [.Try [.Return (some (.Tuple [.Constant (.str _) j p1, .Call (.Name a p2) [] [] p3] kk p4)) p5] (h :: hs) [] [] p6] => (match h, htOf h, mapO htOf hs with
    | .ExceptHandler _ (some e) _ _, some h, some hs => some ⟨a, e, h, hs, p1, p2, p3, p4, p5, p6, j, kk⟩
    | _, _, _ => none)
  | _ => none
/-- one def of the top -/
def mkF (c : TrC) (s : Stmt) (x : Str) (ps N : List Str) (kss : List (List Str × List Nat)) (lm : Lm) : FunT :=
  ⟨x, defArgs s, ps, N, kss, defScope s, lm, (trSs { c with N := N } (defScope s) 60 (defBody s)).getD .nil⟩
end PD
set_option Elab.async false
set_option linter.all false
set_option maxRecDepth 100000
set_option maxHeartbeats 4000000
/-! PX: running the small language by hand: what is wanted of a run, pushed through. -/
namespace PD
open PySem PySem.Spec PyProof.Rows L2
abbrev No : Str → Fs → G → Prop := fun _ _ _ => False
/-- a run that ends well, with Q -/
abbrev R.w {β : Type} (r : R β) (Q : β → G → Prop) : Prop := r.sat Q No
abbrev SR.w (r : SR) (Qn : Sl → G → Prop) (Qr : D → G → Prop) : Prop := r.sat Qn Qr fun _ _ _ _ => False
section
variable {β γ : Type} {Q : β → G → Prop} {Ex : Str → Fs → G → Prop}
theorem ok_w {a : β} {g : G} : (R.ok a g).sat Q Ex = Q a g := rfl
theorem bad_w : (R.bad : R β).sat Q Ex = False := rfl
theorem ex_w {c : Str} {fs : Fs} {g : G} : (R.ex c fs g : R β).sat Q Ex = Ex c fs g := rfl
theorem bind_w {r : R γ} {f : γ → G → R β} : (r.bind f).sat Q Ex = r.sat (fun a g => (f a g).sat Q Ex) Ex := propext R.sat_bind
theorem ite_w {c : Prop} [Decidable c] {a b : R β} : (if c then a else b).sat Q Ex = if c then a.sat Q Ex else b.sat Q Ex := by split <;> rfl
theorem some_w {d : D} {g : G} {Q : D → G → Prop} : (ofO (some d) g).sat Q Ex = Q d g := rfl
theorem ofB_w {b : Bool} {g : G} {Q : D → G → Prop} : (ofB (some b) g).sat Q Ex = Q (.bl b) g := rfl
end
section
variable {Qn : Sl → G → Prop} {Qr : D → G → Prop} {Ex : Str → Fs → Sl → G → Prop}
theorem toS_w {β : Type} {r : R β} {δ : Sl} {f : β → G → SR} : (r.toS δ f).sat Qn Qr Ex = r.sat (fun a g => (f a g).sat Qn Qr Ex) (fun c fs g => Ex c fs δ g) := by cases r <;> rfl
theorem seq_w {r : SR} {f : Sl → G → SR} : (r.seq f).sat Qn Qr Ex = r.sat (fun δ g => (f δ g).sat Qn Qr Ex) Qr Ex := by cases r <;> rfl
theorem nx_w {δ : Sl} {g : G} : (SR.nx δ g).sat Qn Qr Ex = Qn δ g := rfl
theorem rt_w {d : D} {g : G} : (SR.rt d g).sat Qn Qr Ex = Qr d g := rfl
theorem sx_w {c : Str} {fs : Fs} {δ : Sl} {g : G} : (SR.ex c fs δ g).sat Qn Qr Ex = Ex c fs δ g := rfl
theorem sbad_w : (SR.bad).sat Qn Qr Ex = False := rfl
theorem site_w {c : Prop} [Decidable c] {a b : SR} : (if c then a else b).sat Qn Qr Ex = if c then a.sat Qn Qr Ex else b.sat Qn Qr Ex := by split <;> rfl
theorem fin_w {r : SR} {Q : D → G → Prop} {E' : Str → Fs → G → Prop} : r.fin.sat Q E' = r.sat (fun _ g => Q .non g) Q (fun c fs _ g => E' c fs g) := by cases r <;> rfl
end
theorem S_mono {r : SR} {Qn Qn' : Sl → G → Prop} {Qr Qr' : D → G → Prop} {E' E2 : Str → Fs → Sl → G → Prop} (h : r.sat Qn Qr E') (h1 : ∀ δ g, Qn δ g → Qn' δ g) (h2 : ∀ d g, Qr d g → Qr' d g) (h3 : ∀ c fs δ g, E' c fs δ g → E2 c fs δ g) : r.sat Qn' Qr' E2 := by
  cases r with
  | nx δ g => exact h1 δ g h
  | rt d g => exact h2 d g h
  | ex c fs δ g => exact h3 c fs δ g h
  | bad => exact h
theorem eq_of_w {β : Type} {r : R β} {a : β} {g : G} (h : r.w fun x g' => x = a ∧ g' = g) : r = .ok a g := by
  cases r with
  | ok x g' => obtain ⟨h1, h2⟩ := h; rw [h1, h2]
  | ex _ _ _ => exact absurd h id
  | bad => exact absurd h id
theorem w_of_eq {β : Type} {r : R β} {a : β} {g : G} {Q : β → G → Prop} {Ex : Str → Fs → G → Prop} (h : r = .ok a g) (q : Q a g) : r.sat Q Ex := by rw [h]; exact q
theorem w_mono {β : Type} {r : R β} {Q Q' : β → G → Prop} {Ex : Str → Fs → G → Prop} (h : r.w Q) (k : ∀ a g, Q a g → Q' a g) : r.sat Q' Ex := R.sat_mono h k fun _ _ _ z => absurd z id
/-- the heap has grown, nothing else -/
def Gr (g g' : G) : Prop := ∃ t, g' = g ++ t
theorem Gr.refl (g : G) : Gr g g := ⟨[], by simp⟩
theorem Gr.trans {a b c : G} : Gr a b → Gr b c → Gr a c := fun ⟨s, h⟩ ⟨t, k⟩ => ⟨s ++ t, by rw [k, h, List.append_assoc]⟩
theorem Gr.add (g t : G) : Gr g (g ++ t) := ⟨t, rfl⟩
theorem Gr.at {g g' : G} (h : Gr g g') {n : Nat} {o : DO} (e : g[n]? = some o) : g'[n]? = some o := by
  obtain ⟨t, rfl⟩ := h
  rw [List.getElem?_append_left (List.getElem?_eq_some_iff.mp e).1]
  exact e
theorem Gr.len {g g' : G} (h : Gr g g') : g.length ≤ g'.length := by
  obtain ⟨t, rfl⟩ := h
  rw [List.length_append]; omega
/-- a walk over a fixed row of items -/
theorem walk_w {w : Wk} {step : D → G → R Unit} {Q : Unit → G → Prop} {Ex : Str → Fs → G → Prop} (I : Nat → G → Prop) (n : Nat) (hw : ∀ i g, I i g → i ≤ n ∧ ∃ o, w i g = some o ∧ (o = none → i = n) ∧ ∀ d, o = some d → i < n ∧ (step d g).sat (fun _ g' => I (i + 1) g') Ex)
    (hq : ∀ g, I n g → Q () g) : ∀ (m i : Nat) (g : G), I i g → n < i + m → (walk w step m i g).sat Q Ex
  | 0, i, g, hi, hm => by have := (hw i g hi).1; omega
  | m + 1, i, g, hi, hm => by
    obtain ⟨h1, o, e, h2, h3⟩ := hw i g hi
    unfold walk
    rw [e]
    cases o with
    | none =>
      have := h2 rfl
      subst this
      exact hq g hi
    | some d =>
      obtain ⟨h4, h5⟩ := h3 d rfl
      show ((step d g).bind fun _ g' => walk w step m (i + 1) g').sat Q Ex
      rw [bind_w]
      exact R.sat_mono h5 (fun _ g' hg => walk_w I n hw hq m (i + 1) g' hg (by omega)) fun _ _ _ z => z
/-- a for statement over a row of items -/
theorem for_w {w : Wk} {tg : Tg} {body : Sl → G → SR} {Qn : Sl → G → Prop} {Qr : D → G → Prop} {Ex : Str → Fs → Sl → G → Prop} (I : Nat → Sl → G → Prop) (n : Nat)
    (hw : ∀ i δ g, I i δ g → i ≤ n ∧ ∃ o, w i g = some o ∧ (o = none → i = n) ∧ ∀ d, o = some d → i < n ∧ ∃ δ1, tg.put g d δ = some δ1 ∧ (body δ1 g).sat (fun δ' g' => I (i + 1) δ' g') Qr Ex)
    (hq : ∀ δ g, I n δ g → Qn δ g) : ∀ (m i : Nat) (δ : Sl) (g : G), I i δ g → n < i + m → (forS w tg body m i δ g).sat Qn Qr Ex
  | 0, i, δ, g, hi, hm => by have := (hw i δ g hi).1; omega
  | m + 1, i, δ, g, hi, hm => by
    obtain ⟨h1, o, e, h2, h3⟩ := hw i δ g hi
    unfold forS
    rw [e]
    cases o with
    | none =>
      have := h2 rfl
      subst this
      exact hq δ g hi
    | some d =>
      obtain ⟨h4, δ1, e1, h5⟩ := h3 d rfl
      show (match tg.put g d δ with
        | some δ1 => (body δ1 g).seq fun δ2 g2 => forS w tg body m (i + 1) δ2 g2
        | none => .bad : SR).sat Qn Qr Ex
      rw [e1]
      show ((body δ1 g).seq fun δ2 g2 => forS w tg body m (i + 1) δ2 g2).sat Qn Qr Ex
      rw [seq_w]
      exact S_mono h5 (fun δ' g' hg => for_w I n hw hq m (i + 1) δ' g' hg (by omega)) (fun _ _ z => z) fun _ _ _ _ z => z
/-- while: the measure falls -/
theorem while_w {c : Sl → G → R Bool} {body : Sl → G → SR} {Qn : Sl → G → Prop} {Qr : D → G → Prop} {Ex : Str → Fs → Sl → G → Prop} (I : Nat → Sl → G → Prop)
    (hw : ∀ k δ g, I k δ g → (c δ g).sat (fun b g1 => if b = true then (body δ g1).sat (fun δ' g' => ∃ k', k' < k ∧ I k' δ' g') Qr Ex else Qn δ g1) (fun x fs g1 => Ex x fs δ g1)) :
    ∀ (m k : Nat) (δ : Sl) (g : G), I k δ g → k < m → (whileS c body m δ g).sat Qn Qr Ex
  | 0, k, δ, g, hi, hm => by omega
  | m + 1, k, δ, g, hi, hm => by
    unfold whileS
    rw [toS_w]
    refine R.sat_mono (hw k δ g hi) (fun b g1 hb => ?_) fun _ _ _ z => z
    cases b with
    | false => exact hb
    | true =>
      have hb : (body δ g1).sat (fun δ' g' => ∃ k', k' < k ∧ I k' δ' g') Qr Ex := hb
      show ((body δ g1).seq fun δ2 g2 => whileS c body m δ2 g2).sat Qn Qr Ex
      rw [seq_w]
      exact S_mono hb (fun δ' g' ⟨k', hk, hg⟩ => while_w I hw m k' δ' g' hg (by omega)) (fun _ _ z => z) fun _ _ _ _ z => z
end PD
set_option Elab.async false
set_option linter.all false
set_option maxRecDepth 100000
set_option maxHeartbeats 4000000
/-! PX2: what each form wants, as rules for simp. -/
namespace PD
open PySem PySem.Spec PyProof.Rows L2
section
variable {cl : Nat → List D → G → R D} {δ : Sl} {g : G} {Ex : Str → Fs → G → Prop} {p p' px : Pos}
section
variable {Q : D → G → Prop}
@[simp] theorem w_var {i : Nat} {x : Str} : (ev cl (.var i x p) δ g).sat Q Ex = (ofO (δ[i]?).join g).sat Q Ex := rfl
@[simp] theorem w_typ {b : B} : (ev cl (.typ b p) δ g).sat Q Ex = Q (.ty b.id) g := rfl
@[simp] theorem w_num {i : Int} {j : Nat} : (ev cl (.num i j p) δ g).sat Q Ex = Q (.int i) g := rfl
@[simp] theorem w_txt {x : Str} {j : Nat} : (ev cl (.txt x j p) δ g).sat Q Ex = Q (.str x) g := rfl
@[simp] theorem w_boo {b : Bool} {j : Nat} : (ev cl (.boo b j p) δ g).sat Q Ex = Q (.bl b) g := rfl
@[simp] theorem w_non {j : Nat} : (ev cl (.non j p) δ g).sat Q Ex = Q .non g := rfl
@[simp] theorem w_bin {op : Operator} {a b : E} : (ev cl (.bin op a b p) δ g).sat Q Ex = (ev cl a δ g).sat (fun x g1 => (ev cl b δ g1).sat (fun y g2 => (binD op x y g2).sat Q Ex) Ex) Ex := by simp only [ev, bind_w]
@[simp] theorem w_neg {a : E} : (ev cl (.neg a p) δ g).sat Q Ex = (ev cl a δ g).sat (fun x g1 => (asI x g1).sat (fun i g2 => Q (.int (-i)) g2) Ex) Ex := by simp only [ev, bind_w, ok_w]
@[simp] theorem w_nt {a : E} : (ev cl (.nt a p) δ g).sat Q Ex = (ev cl a δ g).sat (fun x g1 => (truR x g1).sat (fun b g2 => Q (.bl (!b)) g2) Ex) Ex := by simp only [ev, bind_w, ok_w]
@[simp] theorem w_bop {k : Bool} {es : Es} : (ev cl (.bop k es p) δ g).sat Q Ex = (evB cl k es δ g).sat Q Ex := rfl
@[simp] theorem w_ife {c a b : E} : (ev cl (.ife c a b p) δ g).sat Q Ex = (evT cl c δ g).sat (fun k g1 => if k = true then (ev cl a δ g1).sat Q Ex else (ev cl b δ g1).sat Q Ex) Ex := by simp only [ev, bind_w, ite_w]
@[simp] theorem w_cmp {op : CmpOp} {a b : E} : (ev cl (.cmp op a b p) δ g).sat Q Ex = (ev cl a δ g).sat (fun x g1 => (ev cl b δ g1).sat (fun y g2 => (cmpD op x y g2).sat Q Ex) Ex) Ex := by simp only [ev, bind_w]
@[simp] theorem w_idx {a b : E} : (ev cl (.idx a b p) δ g).sat Q Ex = (ev cl a δ g).sat (fun x g1 => (ev cl b δ g1).sat (fun y g2 => (dIdx x y g2).sat Q Ex) Ex) Ex := by simp only [ev, bind_w]
@[simp] theorem w_slc {a : E} {lo hi : Oe} : (ev cl (.slc a lo hi p' p) δ g).sat Q Ex = (ev cl a δ g).sat (fun x g1 => (evO cl lo δ g1).sat (fun l g2 => (evO cl hi δ g2).sat (fun h g3 => (dSl x l h g3).sat Q Ex) Ex) Ex) Ex := by simp only [ev, bind_w]
@[simp] theorem w_tup {es : Es} {k : Nat} : (ev cl (.tup es k p) δ g).sat Q Ex = (evs cl es δ g).sat (fun xs g1 => if xs.length ≤ sizeLine then Q (.tup xs) g1 else False) Ex := by simp only [ev, bind_w, ite_w, ok_w, bad_w]
@[simp] theorem w_lst {es : Es} : (ev cl (.lst es p) δ g).sat Q Ex = (evs cl es δ g).sat (fun xs g1 => if xs.length ≤ sizeLine then Q (.ref g1.length) (g1 ++ [.lst xs]) else False) Ex := by simp only [ev, bind_w, ite_w, newL, ok_w, bad_w]
@[simp] theorem w_dct {es : Es} : (ev cl (.dct es p) δ g).sat Q Ex = (evs cl es δ (g ++ [.dic []])).sat (fun xs g1 => (fillD g.length xs g1).sat Q Ex) Ex := by simp only [ev, bind_w]
@[simp] theorem w_blt {b : B} {es : Es} : (ev cl (.blt b px es p) δ g).sat Q Ex = (evs cl es δ g).sat (fun xs g1 => (bltD b xs g1).sat Q Ex) Ex := by simp only [ev, bind_w]
@[simp] theorem w_call {f : Nat} {x : Str} {es : Es} : (ev cl (.call f x px es p) δ g).sat Q Ex = (evs cl es δ g).sat (fun xs g1 => (cl f xs g1).sat Q Ex) Ex := by simp only [ev, bind_w]
@[simp] theorem v_callK {f : Nat} {x : Str} {ks : List (Str × Pos)} {idx : List Nat} {es : Es} : (ev cl (.callK f x px ks idx es p) δ g).sat Q Ex = (evs cl es δ g).sat (fun ys g1 => (cl f (idx.map fun j => ys.getD j .non) g1).sat Q Ex) Ex := by simp only [ev, bind_w]
@[simp] theorem w_mth {m : M} {o : E} {es : Es} : (ev cl (.mth m o px es p) δ g).sat Q Ex = (ev cl o δ g).sat (fun x g1 => if isLst x g1 = true then (evs cl es δ g1).sat (fun xs g2 => (mthD m x xs g2).sat Q Ex) Ex else False) Ex := by simp only [ev, bind_w, ite_w, bad_w]
end
section
variable {Q : List D → G → Prop}
@[simp] theorem wa_nil : (evs cl .nil δ g).sat Q Ex = Q [] g := rfl
@[simp] theorem wa_cons {e : E} {r : Es} : (evs cl (.cons e r) δ g).sat Q Ex = (ev cl e δ g).sat (fun x g1 => (evs cl r δ g1).sat (fun xs g2 => Q (x :: xs) g2) Ex) Ex := by simp only [evs, bind_w, ok_w]
end
section
variable {Q : D → G → Prop}
@[simp] theorem wb_one {k : Bool} {e : E} : (evB cl k (.cons e .nil) δ g).sat Q Ex = (ev cl e δ g).sat Q Ex := by
  show ((ev cl e δ g).bind fun x g1 => if Es.nil.isNil = true then .ok x g1 else _).sat Q Ex = _
  rw [bind_w]
  rfl
@[simp] theorem wb_more {k : Bool} {e e2 : E} {r : Es} : (evB cl k (.cons e (.cons e2 r)) δ g).sat Q Ex = (ev cl e δ g).sat (fun x g1 => (truR x g1).sat (fun b g2 => if b = k then (evB cl k (.cons e2 r) δ g2).sat Q Ex else Q x g2) Ex) Ex := by
  show ((ev cl e δ g).bind fun x g1 => if (Es.cons e2 r).isNil = true then .ok x g1 else (truR x g1).bind fun b g2 => if (b == k) = true then evB cl k (.cons e2 r) δ g2 else .ok x g2).sat Q Ex = _
  rw [bind_w]
  congr 1
  funext x g1
  show ((truR x g1).bind fun b g2 => if (b == k) = true then evB cl k (.cons e2 r) δ g2 else .ok x g2).sat Q Ex = _
  rw [bind_w]
  congr 1
  funext b g2
  rw [ite_w]
  simp only [beq_iff_eq, ok_w]
end
section
variable {Q : Bool → G → Prop}
@[simp] theorem u_nt {a : E} : (evT cl (.nt a p) δ g).sat Q Ex = (evT cl a δ g).sat (fun b g1 => Q (!b) g1) Ex := by simp only [evT, bind_w, ok_w]
@[simp] theorem u_bop {k : Bool} {es : Es} : (evT cl (.bop k es p) δ g).sat Q Ex = (evTB cl k es δ g).sat Q Ex := rfl
@[simp] theorem u_cmp {op : CmpOp} {a b : E} : (evT cl (.cmp op a b p) δ g).sat Q Ex = (ev cl a δ g).sat (fun x g1 => (ev cl b δ g1).sat (fun y g2 => (cmpD op x y g2).sat (fun z g3 => (asB z g3).sat Q Ex) Ex) Ex) Ex := by simp only [evT, bind_w]
@[simp] theorem u_var {i : Nat} {x : Str} : (evT cl (.var i x p) δ g).sat Q Ex = (ofO (δ[i]?).join g).sat (fun x g1 => (truR x g1).sat Q Ex) Ex := by simp only [evT, bind_w]
@[simp] theorem u_blt {b : B} {es : Es} : (evT cl (.blt b px es p) δ g).sat Q Ex = (evs cl es δ g).sat (fun xs g1 => (bltD b xs g1).sat (fun x g2 => (truR x g2).sat Q Ex) Ex) Ex := by simp only [evT, bind_w]
@[simp] theorem u_call {f : Nat} {x : Str} {es : Es} : (evT cl (.call f x px es p) δ g).sat Q Ex = (evs cl es δ g).sat (fun xs g1 => (cl f xs g1).sat (fun x g2 => (truR x g2).sat Q Ex) Ex) Ex := by simp only [evT, bind_w]
@[simp] theorem u_boo {b : Bool} {j : Nat} : (evT cl (.boo b j p) δ g).sat Q Ex = Q b g := rfl
@[simp] theorem ub_one {k : Bool} {e : E} : (evTB cl k (.cons e .nil) δ g).sat Q Ex = (evT cl e δ g).sat Q Ex := by
  show ((evT cl e δ g).bind fun x g1 => if Es.nil.isNil = true then .ok x g1 else _).sat Q Ex = _
  rw [bind_w]
  rfl
@[simp] theorem ub_more {k : Bool} {e e2 : E} {r : Es} : (evTB cl k (.cons e (.cons e2 r)) δ g).sat Q Ex = (evT cl e δ g).sat (fun b g1 => if b = k then (evTB cl k (.cons e2 r) δ g1).sat Q Ex else Q b g1) Ex := by
  show ((evT cl e δ g).bind fun b g1 => if (Es.cons e2 r).isNil = true then .ok b g1 else if (b == k) = true then evTB cl k (.cons e2 r) δ g1 else .ok b g1).sat Q Ex = _
  rw [bind_w]
  congr 1
  funext b g2
  show (if (b == k) = true then evTB cl k (.cons e2 r) δ g2 else .ok b g2 : R Bool).sat Q Ex = _
  rw [ite_w]
  simp only [beq_iff_eq, ok_w]
@[simp] theorem uf_nil : (evF cl .nil δ g).sat Q Ex = Q true g := rfl
@[simp] theorem uf_one {e : E} : (evF cl (.cons e .nil) δ g).sat Q Ex = (evT cl e δ g).sat Q Ex := rfl
@[simp] theorem asB_w {b : Bool} : (asB (.bl b) g).sat Q Ex = Q b g := rfl
@[simp] theorem truB_w {b : Bool} : (truR (.bl b) g).sat Q Ex = Q b g := rfl
end
section
variable {Q : Option Int → G → Prop}
@[simp] theorem wo_none : (evO cl .none δ g).sat Q Ex = Q none g := rfl
@[simp] theorem wo_some {e : E} : (evO cl (.some e) δ g).sat Q Ex = (ev cl e δ g).sat (fun x g1 => (asI x g1).sat (fun i g2 => Q (some i) g2) Ex) Ex := by simp only [evO, bind_w, ok_w]
end
@[simp] theorem asI_w {i : Int} {Q : Int → G → Prop} : (asI (.int i) g).sat Q Ex = Q i g := rfl
section
variable {Q : D → G → Prop}
@[simp] theorem ofO_w {d : D} : (ofO (some d) g).sat Q Ex = Q d g := rfl
@[simp] theorem addI {i j : Int} : (binD .Add (.int i) (.int j) g).sat Q Ex = Q (.int (i + j)) g := rfl
@[simp] theorem subI {i j : Int} : (binD .Sub (.int i) (.int j) g).sat Q Ex = Q (.int (i - j)) g := rfl
@[simp] theorem mulI {i j : Int} : (binD .Mult (.int i) (.int j) g).sat Q Ex = if mulOk i j = true then Q (.int (i * j)) g else False := by
  show (if mulOk i j = true then .ok (.int (i * j)) g else .bad : R D).sat Q Ex = _
  rw [ite_w]; rfl
@[simp] theorem divI {i j : Int} : (binD .FloorDiv (.int i) (.int j) g).sat Q Ex = if divOk j = true then Q (.int (i / j)) g else False := by
  show (if divOk j = true then .ok (.int (i / j)) g else .bad : R D).sat Q Ex = _
  rw [ite_w]; rfl
@[simp] theorem modI {i j : Int} : (binD .Mod (.int i) (.int j) g).sat Q Ex = if 0 < j then Q (.int (i % j)) g else False := by
  show (if decide (0 < j) = true then .ok (.int (i % j)) g else .bad : R D).sat Q Ex = _
  rw [ite_w]; simp only [decide_eq_true_eq]; rfl
@[simp] theorem ix0 {a : D} {r : List D} : (dIdx (.tup (a :: r)) (.int 0) g).sat Q Ex = Q a g := by
  have : dIdxO (.tup (a :: r)) (.int 0) g = some a := by
    show atD (a :: r) (.int 0) = some a
    simp [atD, atI, ixN]
  unfold dIdx; rw [this]; rfl
theorem ixt {ds : List D} {i : Int} {k : Nat} {d : D} (hi : i = (k : Int)) (h : ds[k]? = some d) : (dIdx (.tup ds) (.int i) g).sat Q Ex = Q d g := by
  have hl := (List.getElem?_eq_some_iff.mp h).1
  have : dIdxO (.tup ds) (.int i) g = some d := by
    show atD ds (.int i) = some d
    subst hi
    have e1 : (0 : Int) ≤ (k : Int) := by omega
    have e2 : (k : Int) < (ds.length : Nat) := by omega
    simp only [atD, atI, ixN, e1, e2, if_true, Int.toNat_natCast, Option.bind_some]
    exact h
  unfold dIdx; rw [this]; rfl
@[simp] theorem ix1 {a b : D} {r : List D} : (dIdx (.tup (a :: b :: r)) (.int 1) g).sat Q Ex = Q b g := ixt (k := 1) rfl rfl
@[simp] theorem ix2 {a b c : D} {r : List D} : (dIdx (.tup (a :: b :: c :: r)) (.int 2) g).sat Q Ex = Q c g := ixt (k := 2) rfl rfl
end
section
variable {Qn : Sl → G → Prop} {Qr : D → G → Prop} {Es : Str → Fs → Sl → G → Prop} {cl : Nat → List D → G → R D} {δ : Sl} {g : G} {p p' px py pz pt p2 : Pos}
@[simp] theorem x_nil : (exes cl .nil δ g).sat Qn Qr Es = Qn δ g := rfl
@[simp] theorem x_cons {s : S} {r : Ss} : (exes cl (.cons s r) δ g).sat Qn Qr Es = (exe cl s δ g).sat (fun δ1 g1 => (exes cl r δ1 g1).sat Qn Qr Es) Qr Es := by simp only [exes, seq_w]
@[simp] theorem x_asg {i : Nat} {x : Str} {e : E} : (exe cl (.asg i x px e p) δ g).sat Qn Qr Es = (ev cl e δ g).sat (fun d g1 => Qn (δ.set i (some d)) g1) (fun c fs g1 => Es c fs δ g1) := by simp only [exe, toS_w, nx_w]
@[simp] theorem x_ret {e : E} : (exe cl (.ret e p) δ g).sat Qn Qr Es = (ev cl e δ g).sat (fun d g1 => Qr d g1) (fun c fs g1 => Es c fs δ g1) := by simp only [exe, toS_w, rt_w]
@[simp] theorem x_exp {e : E} : (exe cl (.exp e p) δ g).sat Qn Qr Es = (ev cl e δ g).sat (fun d g1 => Qn δ g1) (fun c fs g1 => Es c fs δ g1) := by simp only [exe, toS_w, nx_w]
@[simp] theorem x_pas : (exe cl (.pas p) δ g).sat Qn Qr Es = Qn δ g := rfl
@[simp] theorem x_ifs {c : E} {a b : Ss} : (exe cl (.ifs c a b p) δ g).sat Qn Qr Es = (evT cl c δ g).sat (fun k g1 => if k = true then (exes cl a δ g1).sat Qn Qr Es else (exes cl b δ g1).sat Qn Qr Es) (fun c fs g1 => Es c fs δ g1) := by simp only [exe, toS_w, site_w]
@[simp] theorem x_rse {x f : Str} {e : E} : (exe cl (.rse x px f e p2 p) δ g).sat Qn Qr Es = (ev cl e δ g).sat (fun d g1 => Es x [(f, d)] δ g1) (fun c fs g1 => Es c fs δ g1) := by simp only [exe, toS_w, sx_w]
@[simp] theorem x_par2 {i j k k2 : Nat} {x y : Str} {a b : E} : (exe cl (.par2 i j x y px py pt k a b k2 p2 p) δ g).sat Qn Qr Es = (ev cl a δ g).sat (fun u g1 => (ev cl b δ g1).sat (fun v g2 => Qn ((δ.set i (some u)).set j (some v)) g2) (fun c fs g2 => Es c fs δ g2)) (fun c fs g1 => Es c fs δ g1) := by simp only [exe, toS_w, nx_w]
end
end
end PD
namespace PD
open PySem PySem.Spec PyProof.Rows L2
section
variable {g : G} {Ex : Str → Fs → G → Prop} {Q : D → G → Prop}
@[simp] theorem bl_isi {x c : D} : (bltD .isinstance [x, c] g).sat Q Ex = (ofB (dIsi x c g) g).sat Q Ex := rfl
@[simp] theorem ofB_s {b : Bool} : (ofB (some b) g).sat Q Ex = Q (.bl b) g := rfl
/-- a list or a tuple of these items -/
theorem seq_cases {d : D} {ds : List D} (h : seqD d g = some ds) : d = .tup ds ∨ d = .ro ds ∨ ∃ n, d = .ref n ∧ g[n]? = some (.lst ds) := by
  cases d with
  | tup xs => cases h; exact .inl rfl
  | ro xs => cases h; exact .inr (.inl rfl)
  | ref n =>
    have h' : (match g[n]? with
      | some (.lst ds) => some ds
      | _ => none) = some ds := h
    split at h'
    · rename_i xs e; cases h'; exact .inr (.inr ⟨n, rfl, e⟩)
    · cases h'
  | _ => cases h
theorem ixs {d e : D} {ds : List D} {i : Int} {k : Nat} (hs : seqD d g = some ds) (hi : i = (k : Int)) (h : ds[k]? = some e) : (dIdx d (.int i) g).sat Q Ex = Q e g := by
  have hl := (List.getElem?_eq_some_iff.mp h).1
  have ha : atD ds (.int i) = some e := by
    subst hi
    have e1 : (0 : Int) ≤ (k : Int) := by omega
    have e2 : (k : Int) < (ds.length : Nat) := by omega
    simp only [atD, atI, ixN, e1, e2, if_true, Int.toNat_natCast, Option.bind_some]
    exact h
  have : dIdxO d (.int i) g = some e := by
    rcases seq_cases hs with rfl | rfl | ⟨n, rfl, en⟩
    · exact ha
    · exact ha
    · show (match g[n]? with
        | some (.lst ds) => atD ds (.int i)
        | some (.dic kvs) => getD' kvs (.int i)
        | _ => none) = _
      rw [en]; exact ha
  unfold dIdx; rw [this]; rfl
theorem lens {d : D} {ds : List D} (hs : seqD d g = some ds) : (bltD .len [d] g).sat Q Ex = Q (.int ds.length) g := by
  show (lenR d g).sat Q Ex = _
  have : lenD d g = some ds.length := by
    rcases seq_cases hs with rfl | rfl | ⟨n, rfl, en⟩
    · rfl
    · rfl
    · show (match g[n]? with
        | some (.lst ds) => some ds.length
        | _ => none) = _
      rw [en]
  unfold lenR; rw [this]; rfl
theorem isls {d : D} {ds : List D} (hs : seqD d g = some ds) : dIsi d (.tup [.ty "list", .ty "tuple"]) g = some true := by
  rcases seq_cases hs with rfl | rfl | ⟨n, rfl, en⟩
  · rfl
  · rfl
  · show (match (match g[n]? with
      | some (.lst _) => some "list"
      | some (.dic _) => some "dict"
      | some (.fdic _) => some "dict"
      | none => none) with
      | some t => isAny t [.ty "list", .ty "tuple"]
      | none => none) = _
    rw [en]; rfl
end
end PD
namespace PD
open PySem PySem.Spec PyProof.Rows L2
section
variable {g : G} {Ex : Str → Fs → G → Prop} {Q : D → G → Prop}
@[simp] theorem eqI {i j : Int} : (cmpD .Eq (.int i) (.int j) g).sat Q Ex = Q (.bl (i == j)) g := rfl
@[simp] theorem neI {i j : Int} : (cmpD .NotEq (.int i) (.int j) g).sat Q Ex = Q (.bl (!(i == j))) g := rfl
@[simp] theorem ltI {i j : Int} : (cmpD .Lt (.int i) (.int j) g).sat Q Ex = Q (.bl (decide (i < j))) g := rfl
@[simp] theorem leI {i j : Int} : (cmpD .LtE (.int i) (.int j) g).sat Q Ex = Q (.bl (decide (i ≤ j))) g := rfl
@[simp] theorem gtI {i j : Int} : (cmpD .Gt (.int i) (.int j) g).sat Q Ex = Q (.bl (decide (j < i))) g := rfl
@[simp] theorem geI {i j : Int} : (cmpD .GtE (.int i) (.int j) g).sat Q Ex = Q (.bl (decide (j ≤ i))) g := rfl
theorem eqS {a b : Str} (ha : PyData.strOk a = true) (hb : PyData.strOk b = true) : (cmpD .Eq (.str a) (.str b) g).sat Q Ex = Q (.bl (a == b)) g := by
  have : dEq (.str a) (.str b) g = some (a == b) := by
    show (if SeqAt.shaped (.str a) && SeqAt.shaped (.str b) then some (PyData.eqv (.str a) (.str b)) else none) = _
    have h1 : SeqAt.shaped (.str a) = true := by simp [SeqAt.shaped, PyData.canLay0, PyData.depth, ha]
    have h2 : SeqAt.shaped (.str b) = true := by simp [SeqAt.shaped, PyData.canLay0, PyData.depth, hb]
    rw [h1, h2]; rfl
  show (ofB (dEq (.str a) (.str b) g) g).sat Q Ex = _
  rw [this]; rfl
theorem inS {x : Str} {ys : List Str} : (cmpD .In (.str x) (.tup (ys.map .str)) g).sat Q Ex = Q (.bl (ys.any fun z => z == x)) g := by
  have h1 : (ys.map D.str).all flatD = true := by
    rw [List.all_map]
    exact List.all_eq_true.mpr fun _ _ => rfl
  have h2 : dInB (.str x) (.tup (ys.map .str)) g = some (ys.any fun z => z == x) := by
    show (if (flatD (.str x) && (ys.map D.str).all flatD) = true then some ((ys.map D.str).any fun z => feq z (.str x)) else none) = _
    rw [h1]
    show some ((ys.map D.str).any fun z => feq z (.str x)) = _
    rw [List.any_map]
    rfl
  show (ofB ((dInB (.str x) (.tup (ys.map .str)) g).map (nB false)) g).sat Q Ex = _
  rw [h2]; rfl
end
end PD
namespace PD
open PySem PySem.Spec PyProof.Rows L2
theorem Gr.set {g g' : G} (h : Gr g g') {k : Nat} (hk : g.length ≤ k) (o : DO) : Gr g (g'.set k o) := by
  obtain ⟨t, rfl⟩ := h
  exact ⟨t.set (k - g.length) o, by rw [List.set_append_right _ _ hk]⟩
theorem Gr.set_at {g : G} {k : Nat} {o : DO} (hk : k < g.length) : (g.set k o)[k]? = some o := List.getElem?_set_self hk
theorem Gr.seq {g g' : G} (h : Gr g g') {d : D} {ds : List D} (e : seqD d g = some ds) : seqD d g' = some ds := by
  rcases seq_cases e with rfl | rfl | ⟨n, rfl, en⟩
  · rfl
  · rfl
  · show (match g'[n]? with
      | some (.lst ds) => some ds
      | _ => none) = some ds
    rw [h.at en]
section
variable {cl : Nat → List D → G → R D} {δ : Sl} {g : G} {Ex : Str → Fs → G → Prop} {p p' px : Pos} {Q : D → G → Prop}
/-- a comprehension over a row of items: what is put out is told by place -/
theorem lc_w {elt : E} {tg : Tg} {e : E} {ifs : Es} {scope : Scope} {own : List (Str × Nat)} {d : D} {ds : List D} (out : List D) (hlen : out.length = ds.length) (hbig : ds.length < 1000000)
    (he : (ev cl e δ g).sat (fun x g1 => x = d ∧ g1 = g) Ex) (hs : seqD d g = some ds) (hifs : ifs = .nil)
    (step : ∀ (i : Nat) (x y : D) (g1 : G), ds[i]? = some x → out[i]? = some y → Gr g g1 → ∃ δ2, tg.put g1 x (wipeD δ (own.map (·.2))) = some δ2 ∧ (ev cl elt δ2 g1).w fun y' g2 => y' = y ∧ Gr g1 g2)
    (hq : ∀ g', Gr g g' → g'[g.length]? = some (.lst out) → Q (.ref g.length) g') : (ev cl (.lc elt tg (.seq e) ifs scope own p) δ g).sat Q Ex := by
  subst hifs
  simp only [ev, evI, bind_w]
  refine R.sat_mono he (fun x g1 hx => ?_) fun _ _ _ z => z
  obtain ⟨rfl, rfl⟩ := hx
  rw [hs]
  show (noEx (walk (wkSeq x) _ FUEL 0 (g1 ++ [.lst []]))).sat _ _
  have key : (walk (wkSeq x) (fun d g2 => (match tg.put g2 d (wipeD δ (own.map (·.2))) with
      | some δ2 => (evF cl .nil δ2 g2).bind fun b g3 => if b then (ev cl elt δ2 g3).bind fun y g4 => pushD g1.length y g4 else .ok () g3
      | none => .bad)) FUEL 0 (g1 ++ [.lst []])).w fun _ g5 => Q (.ref g1.length) g5 := by
    refine walk_w (fun i gi => i ≤ ds.length ∧ Gr g1 gi ∧ gi[g1.length]? = some (.lst (out.take i))) ds.length (fun i gi ⟨hi, gr, ha⟩ => ⟨hi, ds[i]?, by show (seqD x gi).map _ = _; rw [gr.seq hs]; rfl, fun z => ?_, fun y hy => ?_⟩) (fun gi ⟨_, gr, ha⟩ => ?_) FUEL 0 _ ⟨Nat.zero_le _, Gr.add _ _, ?_⟩ (by unfold FUEL; omega)
    · have := List.getElem?_eq_none_iff.mp z; omega
    · have hlt := (List.getElem?_eq_some_iff.mp hy).1
      refine ⟨hlt, ?_⟩
      have ho : out[i]? = some out[i] := List.getElem?_eq_getElem (by omega)
      obtain ⟨δ2, e1, e2⟩ := step i y out[i] gi hy ho gr
      rw [e1]
      show ((ev cl elt δ2 gi).bind fun y g4 => pushD g1.length y g4).sat _ _
      rw [bind_w]
      refine w_mono e2 fun y' g2 ⟨ey, gr2⟩ => ?_
      subst ey
      have ha2 := gr2.at ha
      unfold pushD
      rw [ha2]
      have hb : (out.take i).length < sizeLine := by rw [sizeLine_eq, List.length_take]; omega
      show (if (out.take i).length < sizeLine then R.ok () (g2.set g1.length (.lst (out.take i ++ [out[i]]))) else .bad).sat _ _
      rw [if_pos hb]
      refine ⟨hlt, (gr.trans gr2).set (Nat.le_refl _) _, ?_⟩
      rw [Gr.set_at (List.getElem?_eq_some_iff.mp ha2).1, List.take_succ_eq_append_getElem (by omega)]
    · rw [List.getElem?_append_right (Nat.le_refl _), Nat.sub_self]; rfl
    · refine hq gi gr ?_
      rw [ha, ← hlen, List.take_length]
  cases ew : walk (wkSeq x) (fun d g2 => (match tg.put g2 d (wipeD δ (own.map (·.2))) with
      | some δ2 => (evF cl .nil δ2 g2).bind fun b g3 => if b then (ev cl elt δ2 g3).bind fun y g4 => pushD g1.length y g4 else .ok () g3
      | none => .bad)) FUEL 0 (g1 ++ [.lst []]) with
  | ok u g5 => rw [ew] at key; exact key
  | ex c fs g5 => rw [ew] at key; exact absurd key id
  | bad => rw [ew] at key; exact absurd key id
end
end PD
set_option Elab.async false
set_option linter.all false
set_option maxRecDepth 100000
set_option maxHeartbeats 4000000
/-! PX3: comprehensions with a test. -/
namespace PD
open PySem PySem.Spec PyProof.Rows L2
section
variable {cl : Nat → List D → G → R D} {δ : Sl} {g : G} {Ex : Str → Fs → G → Prop} {p p' px : Pos} {Q : D → G → Prop}
theorem filt_snoc {β : Type} (keep : β → Bool) (L : List β) (i : Nat) (h : i < L.length) : (L.take (i + 1)).filter keep = (L.take i).filter keep ++ (if keep L[i] = true then [L[i]] else []) := by
  rw [List.take_succ_eq_append_getElem h, List.filter_append]
  congr 1
  by_cases e : keep L[i] = true
  · rw [if_pos e, List.filter_cons_of_pos e, List.filter_nil]
  · rw [if_neg e, List.filter_cons_of_neg e, List.filter_nil]
/-- a comprehension over a row of items, with tests -/
theorem lt_w {β : Type} {elt : E} {tg : Tg} {e : E} {ifs : Es} {scope : Scope} {own : List (Str × Nat)} {d : D} (L : List β) (u f : β → D) (keep : β → Bool) (hbig : L.length < 1000000)
    (he : (ev cl e δ g).sat (fun x g1 => x = d ∧ g1 = g) Ex) (hs : seqD d g = some (L.map u))
    (step : ∀ (x : β) (g1 : G), x ∈ L → Gr g g1 → ∃ δ2, tg.put g1 (u x) (wipeD δ (own.map (·.2))) = some δ2 ∧ (evF cl ifs δ2 g1).w fun b g2 => b = keep x ∧ Gr g1 g2 ∧ (b = true → (ev cl elt δ2 g2).w fun y g3 => y = f x ∧ Gr g2 g3))
    (hq : ∀ g', Gr g g' → g'[g.length]? = some (.lst ((L.filter keep).map f)) → Q (.ref g.length) g') : (ev cl (.lc elt tg (.seq e) ifs scope own p) δ g).sat Q Ex := by
  simp only [ev, evI, bind_w]
  refine R.sat_mono he (fun x g1 hx => ?_) fun _ _ _ z => z
  obtain ⟨rfl, rfl⟩ := hx
  rw [hs]
  show (noEx (walk (wkSeq x) _ FUEL 0 (g1 ++ [.lst []]))).sat _ _
  have key : (walk (wkSeq x) (fun d g2 => (match tg.put g2 d (wipeD δ (own.map (·.2))) with
      | some δ2 => (evF cl ifs δ2 g2).bind fun b g3 => if b then (ev cl elt δ2 g3).bind fun y g4 => pushD g1.length y g4 else .ok () g3
      | none => .bad)) FUEL 0 (g1 ++ [.lst []])).w fun _ g5 => Q (.ref g1.length) g5 := by
    refine walk_w (fun i gi => i ≤ L.length ∧ Gr g1 gi ∧ gi[g1.length]? = some (.lst (((L.take i).filter keep).map f))) L.length (fun i gi ⟨hi, gr, ha⟩ => ⟨hi, (L.map u)[i]?, by show (seqD x gi).map _ = _; rw [gr.seq hs]; rfl, fun z => ?_, fun y hy => ?_⟩) (fun gi ⟨_, gr, ha⟩ => ?_) FUEL 0 _ ⟨Nat.zero_le _, Gr.add _ _, ?_⟩ (by unfold FUEL; omega)
    · have := List.getElem?_eq_none_iff.mp z
      rw [List.length_map] at this; omega
    · have hlt := (List.getElem?_eq_some_iff.mp hy).1
      rw [List.length_map] at hlt
      refine ⟨hlt, ?_⟩
      have hy' : y = u L[i] := by
        rw [List.getElem?_map, List.getElem?_eq_getElem hlt] at hy
        cases hy; rfl
      subst hy'
      obtain ⟨δ2, e1, e2⟩ := step L[i] gi (List.getElem_mem hlt) gr
      rw [e1]
      show ((evF cl ifs δ2 gi).bind fun b g3 => if b = true then (ev cl elt δ2 g3).bind fun y g4 => pushD g1.length y g4 else .ok () g3).sat _ _
      rw [bind_w]
      refine w_mono e2 fun b g2 ⟨eb, gr2, hb⟩ => ?_
      rw [ite_w]
      have fs := filt_snoc keep L i hlt
      by_cases eb' : b = true
      · rw [if_pos eb', bind_w]
        refine w_mono (hb eb') fun y' g3 ⟨ey, gr3⟩ => ?_
        subst ey
        have ha2 := gr3.at (gr2.at ha)
        unfold pushD
        rw [ha2]
        have hbb : (((L.take i).filter keep).map f).length < sizeLine := by
          rw [sizeLine_eq, List.length_map]
          have := List.length_filter_le keep (L.take i)
          rw [List.length_take] at this
          omega
        show (if (((L.take i).filter keep).map f).length < sizeLine then R.ok () (g3.set g1.length (.lst (((L.take i).filter keep).map f ++ [f L[i]]))) else .bad).sat _ _
        rw [if_pos hbb]
        refine ⟨hlt, ((gr.trans gr2).trans gr3).set (Nat.le_refl _) _, ?_⟩
        rw [Gr.set_at (List.getElem?_eq_some_iff.mp ha2).1, fs, if_pos (eb ▸ eb'), List.map_append]
        rfl
      · rw [if_neg eb']
        refine ⟨hlt, gr.trans gr2, ?_⟩
        rw [gr2.at ha, fs, if_neg (eb ▸ eb'), List.append_nil]
    · rw [List.getElem?_append_right (Nat.le_refl _), Nat.sub_self]; rfl
    · refine hq gi gr ?_
      rw [ha, List.take_length]
  cases ew : walk (wkSeq x) (fun d g2 => (match tg.put g2 d (wipeD δ (own.map (·.2))) with
      | some δ2 => (evF cl ifs δ2 g2).bind fun b g3 => if b then (ev cl elt δ2 g3).bind fun y g4 => pushD g1.length y g4 else .ok () g3
      | none => .bad)) FUEL 0 (g1 ++ [.lst []]) with
  | ok u' g5 => rw [ew] at key; exact key
  | ex c fs g5 => rw [ew] at key; exact absurd key id
  | bad => rw [ew] at key; exact absurd key id
end
end PD
set_option Elab.async false
set_option linter.all false
set_option maxRecDepth 100000
set_option maxHeartbeats 4000000
/-! PX4: more rules for running by hand. -/
namespace PD
open PySem PySem.Spec PyProof.Rows L2
theorem seq_ref {g : G} {k : Nat} {ds : List D} (h : g[k]? = some (.lst ds)) : seqD (.ref k) g = some ds := by
  show (match g[k]? with
    | some (.lst ds) => some ds
    | _ => none) = _
  rw [h]
theorem at_new {g : G} {o : DO} {t : List DO} : (g ++ o :: t)[g.length]? = some o := by
  rw [List.getElem?_append_right (Nat.le_refl _), Nat.sub_self]; rfl
theorem at_old {g : G} {t : List DO} {k : Nat} {o : DO} (h : g[k]? = some o) : (g ++ t)[k]? = some o := by
  rw [List.getElem?_append_left (List.getElem?_eq_some_iff.mp h).1]; exact h
/-- a for statement over a row of items that stays as it is -/
theorem for_l {β : Type} {x : D} {tg : Tg} {body : Sl → G → SR} {Qn : Sl → G → Prop} {Qr : D → G → Prop} {Ex : Str → Fs → Sl → G → Prop} (L : List β) (u : β → D) (I : Nat → Sl → G → Prop) (hl : L.length < 100000000)
    (hseq : ∀ i δ g, I i δ g → seqD x g = some (L.map u))
    (hstep : ∀ i (h : i < L.length) δ g, I i δ g → ∃ δ1, tg.put g (u L[i]) δ = some δ1 ∧ (body δ1 g).sat (fun δ' g' => I (i + 1) δ' g') Qr Ex)
    (hq : ∀ δ g, I L.length δ g → Qn δ g) (δ : Sl) (g : G) (h0 : I 0 δ g) : (forS (wkSeq x) tg body FUEL 0 δ g).sat Qn Qr Ex := by
  refine for_w (fun i δ g => i ≤ L.length ∧ I i δ g) L.length (fun i δ g ⟨hi, hI⟩ => ⟨hi, (L.map u)[i]?, ?_, fun z => ?_, fun d hd => ?_⟩) (fun δ g h => hq δ g h.2) FUEL 0 δ g ⟨Nat.zero_le _, h0⟩ (by unfold FUEL; omega)
  · show (seqD x g).map _ = _
    rw [hseq i δ g hI]; rfl
  · have := List.getElem?_eq_none_iff.mp z
    rw [List.length_map] at this; omega
  · have hlt := (List.getElem?_eq_some_iff.mp hd).1
    rw [List.length_map] at hlt
    have hd' : d = u L[i] := by
      rw [List.getElem?_map, List.getElem?_eq_getElem hlt] at hd
      cases hd; rfl
    subst hd'
    obtain ⟨δ1, h1, h2⟩ := hstep i hlt δ g hI
    exact ⟨hlt, δ1, h1, S_mono h2 (fun _ _ z => ⟨hlt, z⟩) (fun _ _ z => z) fun _ _ _ _ z => z⟩
section
variable {Qn : Sl → G → Prop} {Qr : D → G → Prop} {Es : Str → Fs → Sl → G → Prop} {cl : Nat → List D → G → R D} {δ : Sl} {g : G} {p p' : Pos}
theorem x_forE {tg : Tg} {e : E} {body : Ss} {x : D} {g1 : G} {ds : List D} (he : ev cl e δ g = .ok x g1) (hs : seqD x g1 = some ds) : (exe cl (.forr tg (.seq e) body p) δ g).sat Qn Qr Es = (forS (wkSeq x) tg (exes cl body) FUEL 0 δ g1).sat Qn Qr Es := by
  simp only [exe, evI, he, R.bind, hs, R.toS]
/-- a for statement over range(n) -/
theorem x_rng {tg : Tg} {n : Int} {body : Ss} {px : Pos} {j : Nat} (hn : inR n = true) : (exe cl (.forr tg (.rng1 px (.num n j p') p) body p) δ g).sat Qn Qr Es = (forS (wkRng 0 n.toNat) tg (exes cl body) FUEL 0 δ g).sat Qn Qr Es := by
  simp only [exe, evI, ev, R.bind, asI, hn, if_true, R.toS]
theorem for_r {lo : Int} {n : Nat} {tg : Tg} {body : Sl → G → SR} {Qn : Sl → G → Prop} {Qr : D → G → Prop} {Ex : Str → Fs → Sl → G → Prop} (I : Nat → Sl → G → Prop) (hl : n < 100000000)
    (hstep : ∀ i (h : i < n) δ g, I i δ g → ∃ δ1, tg.put g (.int (lo + i)) δ = some δ1 ∧ (body δ1 g).sat (fun δ' g' => I (i + 1) δ' g') Qr Ex)
    (hq : ∀ δ g, I n δ g → Qn δ g) (δ : Sl) (g : G) (h0 : I 0 δ g) : (forS (wkRng lo n) tg body FUEL 0 δ g).sat Qn Qr Ex := by
  refine for_w (fun i δ g => i ≤ n ∧ I i δ g) n (fun i δ g ⟨hi, hI⟩ => ⟨hi, if i < n then some (.int (lo + i)) else none, rfl, fun z => ?_, fun d hd => ?_⟩) (fun δ g h => hq δ g h.2) FUEL 0 δ g ⟨Nat.zero_le _, h0⟩ (by unfold FUEL; omega)
  · split at z
    · cases z
    · omega
  · split at hd
    · rename_i hlt
      cases hd
      obtain ⟨δ1, h1, h2⟩ := hstep i hlt δ g hI
      exact ⟨hlt, δ1, h1, S_mono h2 (fun _ _ z => ⟨hlt, z⟩) (fun _ _ z => z) fun _ _ _ _ z => z⟩
    · cases hd
end
end PD
set_option Elab.async false
set_option linter.all false
set_option maxRecDepth 100000
set_option maxHeartbeats 4000000
/-! PX5: comprehensions by an invariant; heaps that keep what lies above a place. -/
namespace PD
open PySem PySem.Spec PyProof.Rows L2
/-- all at or above b is kept -/
structure Sx (b : Nat) (g g' : G) : Prop where
  len : g.length ≤ g'.length
  at_ : ∀ i, b ≤ i → i < g.length → g'[i]? = g[i]?
theorem Sx.refl (b : Nat) (g : G) : Sx b g g := ⟨Nat.le_refl _, fun _ _ _ => rfl⟩
theorem Sx.trans {b : Nat} {g g1 g2 : G} (h : Sx b g g1) (k : Sx b g1 g2) : Sx b g g2 := ⟨Nat.le_trans h.len k.len, fun i h1 h2 => (k.at_ i h1 (Nat.lt_of_lt_of_le h2 h.len)).trans (h.at_ i h1 h2)⟩
theorem Sx.gr {b : Nat} {g g' : G} (h : Gr g g') : Sx b g g' := by
  obtain ⟨t, rfl⟩ := h
  exact ⟨by simp, fun i _ hi => List.getElem?_append_left hi⟩
theorem Sx.set {b : Nat} {g g' : G} (h : Sx b g g') {k : Nat} (o : DO) (hk : k < b) : Sx b g (g'.set k o) := ⟨by rw [List.length_set]; exact h.len, fun i h1 h2 => by rw [List.getElem?_set_ne (by omega)]; exact h.at_ i h1 h2⟩
theorem Sx.set_new {b : Nat} {g g' : G} (h : Sx b g g') {k : Nat} (o : DO) (hk : g.length ≤ k) : Sx b g (g'.set k o) := ⟨by rw [List.length_set]; exact h.len, fun i h1 h2 => by rw [List.getElem?_set_ne (by omega)]; exact h.at_ i h1 h2⟩
theorem Sx.at {b : Nat} {g g' : G} (h : Sx b g g') {i : Nat} {o : DO} (hb : b ≤ i) (e : g[i]? = some o) : g'[i]? = some o := by
  rw [h.at_ i hb (List.getElem?_eq_some_iff.mp e).1]; exact e
theorem Sx.up {b c : Nat} {g g' : G} (h : Sx b g g') (hc : b ≤ c) : Sx c g g' := ⟨h.len, fun i h1 h2 => h.at_ i (by omega) h2⟩
section
variable {cl : Nat → List D → G → R D} {δ : Sl} {g : G} {Ex : Str → Fs → G → Prop} {p p' px : Pos} {Q : D → G → Prop}
theorem evI_seq {e : E} {x : D} {g1 : G} {ds : List D} (he : ev cl e δ g = .ok x g1) (hs : seqD x g1 = some ds) : evI cl (.seq e) δ g = .ok (wkSeq x) g1 := by
  simp only [evI, he, R.bind, hs]
theorem evI_zip {a b : E} {x y : D} {g1 g2 : G} {q : List D × List D} (ha : ev cl a δ g = .ok x g1) (hb : ev cl b δ g1 = .ok y g2) (hs : zipD x y g2 = some q) : evI cl (.zip px a b p) δ g = .ok (wkZip x y) g2 := by
  simp only [evI, ha, hb, R.bind, hs]
theorem noEx_w {β : Type} {r : R β} {Q : β → G → Prop} {Ex : Str → Fs → G → Prop} (h : r.w Q) : (noEx r).sat Q Ex := by
  cases r with
  | ok _ _ => exact h
  | ex _ _ _ => exact absurd h id
  | bad => exact absurd h id
/-- a comprehension, by an invariant over the items so far and what was put out -/
theorem lc_inv {β : Type} {elt : E} {tg : Tg} {it : It} {ifs : Es} {scope : Scope} {own : List (Str × Nat)} {w : Wk} {g1 : G} (L : List β) (u : β → D) (I : Nat → List D → G → Prop) (hbig : L.length < 1000000)
    (he : evI cl it δ g = .ok w g1)
    (hw : ∀ i acc gi, I i acc gi → w i gi = some ((L.map u)[i]?) ∧ gi[g1.length]? = some (.lst acc) ∧ acc.length ≤ i)
    (h0 : I 0 [] (g1 ++ [.lst []]))
    (step : ∀ i (hi : i < L.length) acc gi, I i acc gi → ∃ δ2, tg.put gi (u L[i]) (wipeD δ (own.map (·.2))) = some δ2 ∧ (evF cl ifs δ2 gi).w fun b g2 =>
      if b = true then (ev cl elt δ2 g2).w fun y g3 => g3[g1.length]? = some (.lst acc) ∧ I (i + 1) (acc ++ [y]) (g3.set g1.length (.lst (acc ++ [y]))) else I (i + 1) acc g2)
    (hq : ∀ acc g', I L.length acc g' → Q (.ref g1.length) g') : (ev cl (.lc elt tg it ifs scope own p) δ g).sat Q Ex := by
  simp only [ev, he, R.bind]
  show ((noEx _).bind _).sat Q Ex
  rw [bind_w]
  refine noEx_w ?_
  refine walk_w (fun i gi => i ≤ L.length ∧ ∃ acc, I i acc gi) L.length (fun i gi ⟨hi, acc, hI⟩ => ⟨hi, (L.map u)[i]?, (hw i acc gi hI).1, fun z => ?_, fun d hd => ?_⟩) (fun gi ⟨_, acc, hI⟩ => hq acc gi hI) FUEL 0 _ ⟨Nat.zero_le _, [], h0⟩ (by unfold FUEL; omega)
  · have := List.getElem?_eq_none_iff.mp z
    rw [List.length_map] at this; omega
  · have hlt := (List.getElem?_eq_some_iff.mp hd).1
    rw [List.length_map] at hlt
    have hd' : d = u L[i] := by
      rw [List.getElem?_map, List.getElem?_eq_getElem hlt] at hd
      cases hd; rfl
    subst hd'
    refine ⟨hlt, ?_⟩
    obtain ⟨δ2, e1, e2⟩ := step i hlt acc gi hI
    rw [e1]
    show ((evF cl ifs δ2 gi).bind fun b g3 => if b = true then (ev cl elt δ2 g3).bind fun y g4 => pushD g1.length y g4 else .ok () g3).sat _ _
    rw [bind_w]
    refine w_mono e2 fun b g2 hb => ?_
    rw [ite_w]
    split
    · rename_i eb
      rw [if_pos eb] at hb
      rw [bind_w]
      refine w_mono hb fun y g3 ⟨ha, hI3⟩ => ?_
      unfold pushD
      rw [ha]
      have hl := (hw i acc gi hI).2.2
      show (if acc.length < sizeLine then R.ok () (g3.set g1.length (.lst (acc ++ [y]))) else .bad).sat _ _
      rw [if_pos (by rw [sizeLine_eq]; omega)]
      exact ⟨hlt, _, hI3⟩
    · rename_i eb
      rw [if_neg eb] at hb
      exact ⟨hlt, acc, hb⟩
end
/-- two rows, item by item -/
inductive A2 {β γ : Type} (Φ : β → γ → Prop) : List β → List γ → Prop
  | nil : A2 Φ [] []
  | cons {x : β} {y : γ} {xs : List β} {ys : List γ} : Φ x y → A2 Φ xs ys → A2 Φ (x :: xs) (y :: ys)
section
variable {β γ : Type} {Φ Ψ : β → γ → Prop}
theorem A2.mono (h : ∀ x y, Φ x y → Ψ x y) : ∀ {xs : List β} {ys : List γ}, A2 Φ xs ys → A2 Ψ xs ys
  | _, _, .nil => .nil
  | _, _, .cons a r => .cons (h _ _ a) (r.mono h)
theorem A2.len : ∀ {xs : List β} {ys : List γ}, A2 Φ xs ys → xs.length = ys.length
  | _, _, .nil => rfl
  | _, _, .cons _ r => congrArg (· + 1) r.len
theorem A2.app : ∀ {xs us : List β} {ys vs : List γ}, A2 Φ xs ys → A2 Φ us vs → A2 Φ (xs ++ us) (ys ++ vs)
  | _, _, _, _, .nil, k => k
  | _, _, _, _, .cons a r, k => .cons a (r.app k)
theorem A2.get : ∀ {xs : List β} {ys : List γ}, A2 Φ xs ys → ∀ {i : Nat} {x : β} {y : γ}, xs[i]? = some x → ys[i]? = some y → Φ x y
  | _, _, .nil, i, _, _, h, _ => by simp at h
  | _, _, .cons a _, 0, _, _, h, k => by cases h; cases k; exact a
  | _, _, .cons _ r, i + 1, _, _, h, k => r.get (i := i) (by simpa using h) (by simpa using k)
theorem A2.of : ∀ (xs : List β) (ys : List γ), xs.length = ys.length → (∀ (i : Nat) (x : β) (y : γ), xs[i]? = some x → ys[i]? = some y → Φ x y) → A2 Φ xs ys
  | [], [], _, _ => .nil
  | x :: xs, y :: ys, hl, h => .cons (h 0 x y rfl rfl) (A2.of xs ys (by simpa using hl) fun i a b ha hb => h (i + 1) a b (by simpa using ha) (by simpa using hb))
  | [], _ :: _, hl, _ => by simp at hl
  | _ :: _, [], hl, _ => by simp at hl
theorem A2.mapR {δ : Type} (f : γ → δ) {Ψ : β → δ → Prop} (h : ∀ x y, Φ x y → Ψ x (f y)) : ∀ {xs : List β} {ys : List γ}, A2 Φ xs ys → A2 Ψ xs (ys.map f)
  | _, _, .nil => .nil
  | _, _, .cons a r => .cons (h _ _ a) (r.mapR f h)
end
/-- all but k is kept -/
structure Kp (k : Nat) (g g' : G) : Prop where
  len : g.length ≤ g'.length
  at_ : ∀ i, i ≠ k → i < g.length → g'[i]? = g[i]?
theorem Kp.gr {k : Nat} {g g' : G} (h : Gr g g') : Kp k g g' := by
  obtain ⟨t, rfl⟩ := h
  exact ⟨by simp, fun i _ hi => List.getElem?_append_left hi⟩
theorem Kp.set (k : Nat) (g : G) (o : DO) : Kp k g (g.set k o) := ⟨by simp, fun i h _ => List.getElem?_set_ne (by omega)⟩
theorem Kp.trans {k : Nat} {g g1 g2 : G} (h : Kp k g g1) (h2 : Kp k g1 g2) : Kp k g g2 := ⟨Nat.le_trans h.len h2.len, fun i a b => (h2.at_ i a (Nat.lt_of_lt_of_le b h.len)).trans (h.at_ i a b)⟩
theorem Kp.at {k : Nat} {g g' : G} (h : Kp k g g') {i : Nat} {o : DO} (hi : i ≠ k) (e : g[i]? = some o) : g'[i]? = some o := by
  rw [h.at_ i hi (List.getElem?_eq_some_iff.mp e).1]; exact e
section
variable {cl : Nat → List D → G → R D} {δ : Sl} {g : G} {Ex : Str → Fs → G → Prop} {p p' px : Pos} {Q : D → G → Prop}
/-- a comprehension without tests over a row that stays; the heap only grows; what is put out stands in a relation to its item -/
theorem lc_relL {β : Type} {elt : E} {tg : Tg} {it : It} {scope : Scope} {own : List (Str × Nat)} {w : Wk} {g1 : G} (L : List β) (u : β → D) (Φ : β → D → G → Prop) (mono : ∀ x y g g', Φ x y g → Kp g1.length g g' → Φ x y g') (hbig : L.length < 1000000)
    (he : evI cl it δ g = .ok w g1)
    (hw : ∀ i gi, Gr g1 gi → w i gi = some ((L.map u)[i]?))
    (step : ∀ x gi, x ∈ L → Gr g1 gi → g1.length < gi.length → ∃ δ2, tg.put gi (u x) (wipeD δ (own.map (·.2))) = some δ2 ∧ (ev cl elt δ2 gi).w fun y g3 => Φ x y g3 ∧ Gr gi g3)
    (hq : ∀ out g', Gr g1 g' → g'[g1.length]? = some (.lst out) → A2 (fun x y => Φ x y g') L out → Q (.ref g1.length) g') : (ev cl (.lc elt tg it .nil scope own p) δ g).sat Q Ex := by
  refine lc_inv L u (fun i acc gi => i ≤ L.length ∧ Gr g1 gi ∧ gi[g1.length]? = some (.lst acc) ∧ A2 (fun x y => Φ x y gi) (L.take i) acc) hbig he (fun i acc gi ⟨hi, gr, ha, h2⟩ => ⟨hw i gi gr, ha, ?_⟩) ⟨Nat.zero_le _, Gr.add _ _, at_new, .nil⟩ (fun i hi acc gi ⟨_, gr, ha, h2⟩ => ?_) fun acc g' ⟨_, gr, ha, h2⟩ => ?_
  · have := h2.len
    rw [List.length_take] at this
    omega
  · obtain ⟨δ2, e1, e2⟩ := step L[i] gi (List.getElem_mem hi) gr (List.getElem?_eq_some_iff.mp ha).1
    refine ⟨δ2, e1, ?_⟩
    show (R.ok true gi).sat _ _
    rw [ok_w, if_pos rfl]
    refine w_mono e2 fun y g3 ⟨hy, gr3⟩ => ?_
    have hl := (List.getElem?_eq_some_iff.mp (gr3.at ha)).1
    have gg : Gr g1 (g3.set g1.length (.lst (acc ++ [y]))) := (gr.trans gr3).set (Nat.le_refl _) _
    refine ⟨gr3.at ha, hi, gg, Gr.set_at hl, ?_⟩
    rw [List.take_succ_eq_append_getElem hi]
    have kp : Kp g1.length g3 (g3.set g1.length (.lst (acc ++ [y]))) := Kp.set _ _ _
    exact (h2.mono fun x z hz => mono x z _ _ (mono x z _ _ hz (Kp.gr gr3)) kp).app (.cons (mono _ _ _ _ hy kp) .nil)
  · rw [List.take_length] at h2
    exact hq acc g' gr ha h2
/-- a comprehension without tests over a row that stays; the heap only grows; what is put out stands in a relation to its item -/
theorem lc_rel {β : Type} {elt : E} {tg : Tg} {it : It} {scope : Scope} {own : List (Str × Nat)} {w : Wk} {g1 : G} (L : List β) (u : β → D) (Φ : β → D → G → Prop) (mono : ∀ x y g g', Φ x y g → Kp g1.length g g' → Φ x y g') (hbig : L.length < 1000000)
    (he : evI cl it δ g = .ok w g1)
    (hw : ∀ i gi, Gr g1 gi → w i gi = some ((L.map u)[i]?))
    (step : ∀ x gi, x ∈ L → Gr g1 gi → ∃ δ2, tg.put gi (u x) (wipeD δ (own.map (·.2))) = some δ2 ∧ (ev cl elt δ2 gi).w fun y g3 => Φ x y g3 ∧ Gr gi g3)
    (hq : ∀ out g', Gr g1 g' → g'[g1.length]? = some (.lst out) → A2 (fun x y => Φ x y g') L out → Q (.ref g1.length) g') : (ev cl (.lc elt tg it .nil scope own p) δ g).sat Q Ex :=
  lc_relL L u Φ mono hbig he hw (fun x gi hx gr _ => step x gi hx gr) hq
end
end PD
set_option Elab.async false
set_option linter.all false
set_option maxRecDepth 100000
set_option maxHeartbeats 4000000
/-! PX6: comprehensions of two clauses; lists put together. -/
namespace PD
open PySem PySem.Spec PyProof.Rows L2
theorem addLL {g : G} {a b : Nat} {xs ys : List D} (ha : g[a]? = some (.lst xs)) (hb : g[b]? = some (.lst ys)) (hl : xs.length + ys.length ≤ 1000000) {Q : D → G → Prop} {Ex : Str → Fs → G → Prop} : (binD .Add (.ref a) (.ref b) g).sat Q Ex = Q (.ref g.length) (g ++ [.lst (xs ++ ys)]) := by
  show (match g[a]?, g[b]? with
    | some (.lst xs), some (.lst ys) => if xs.length + ys.length ≤ sizeLine then R.ok (D.ref g.length) (g ++ [DO.lst (xs ++ ys)]) else .bad
    | _, _ => .bad).sat Q Ex = _
  rw [ha, hb]
  show (if xs.length + ys.length ≤ sizeLine then R.ok (D.ref g.length) (g ++ [DO.lst (xs ++ ys)]) else .bad).sat Q Ex = _
  rw [if_pos (by rw [sizeLine_eq]; omega)]; rfl
theorem extLL {g : G} {a b : Nat} {xs ys : List D} (ha : g[a]? = some (.lst xs)) (hb : g[b]? = some (.lst ys)) (hl : xs.length + ys.length ≤ 1000000) {Q : D → G → Prop} {Ex : Str → Fs → G → Prop} : (mthD .extend (.ref a) [.ref b] g).sat Q Ex = Q .non (g.set a (.lst (xs ++ ys))) := by
  have e1 : lstAt (.ref a) g = some (a, xs) := by
    show (match g[a]? with
      | some (.lst ds) => some (a, ds)
      | _ => none) = _
    rw [ha]
  have e2 : lstAt (.ref b) g = some (b, ys) := by
    show (match g[b]? with
      | some (.lst ds) => some (b, ds)
      | _ => none) = _
    rw [hb]
  show (dExt (.ref a) (.ref b) g).sat Q Ex = _
  unfold dExt
  rw [e1, e2]
  show (if xs.length + ys.length ≤ sizeLine then R.ok D.non (g.set a (.lst (xs ++ ys))) else .bad).sat Q Ex = _
  rw [if_pos (by rw [sizeLine_eq]; omega)]; rfl
section
variable {cl : Nat → List D → G → R D} {δ : Sl} {g : G} {Ex : Str → Fs → G → Prop} {p p' px : Pos} {Q : D → G → Prop}
theorem take_flat {β γ : Type} (f : β → List γ) (L : List β) (i : Nat) (h : i < L.length) : (L.take (i + 1)).flatMap f = (L.take i).flatMap f ++ f L[i] := by
  rw [List.take_succ_eq_append_getElem h, List.flatMap_append]
  simp
/-- a comprehension of two clauses without tests over rows that stay -/
theorem lc2_rel {β γ : Type} {elt : E} {tg tg1 : Tg} {it it1 : It} {scope : Scope} {own : List (Str × Nat)} {vs1 : List Nat} {w : Wk} {g1 : G} (L : List β) (M : List γ) (u : β → D) (v : γ → D) (Φ : β → γ → D → G → Prop) (mono : ∀ x y r g g', Φ x y r g → Kp g1.length g g' → Φ x y r g') (hL : L.length < 1000000) (hM : M.length < 1000000) (hbig : L.length * M.length < 1000000)
    (he : evI cl it δ g = .ok w g1)
    (hw : ∀ i gi, Gr g1 gi → w i gi = some ((L.map u)[i]?))
    (step : ∀ x gi, x ∈ L → Gr g1 gi → ∃ δ2, tg.put gi (u x) (wipeD δ (own.map (·.2))) = some δ2 ∧ ∃ w1, evI cl it1 δ2 gi = .ok w1 gi ∧ (∀ j gj, Gr g1 gj → w1 j gj = some ((M.map v)[j]?)) ∧
      ∀ y gj, y ∈ M → Gr g1 gj → g1.length < gj.length → ∃ δ3, tg1.put gj (v y) (wipeD δ2 vs1) = some δ3 ∧ (ev cl elt δ3 gj).w fun r g3 => Φ x y r g3 ∧ Gr gj g3)
    (hq : ∀ out g', Gr g1 g' → g'[g1.length]? = some (.lst out) → A2 (fun (p : β × γ) r => Φ p.1 p.2 r g') (L.flatMap fun x => M.map fun y => (x, y)) out → Q (.ref g1.length) g') : (ev cl (.lc2 elt tg it .nil tg1 it1 .nil scope own vs1 p) δ g).sat Q Ex := by
  simp only [ev, he, R.bind]
  show ((noEx _).bind _).sat Q Ex
  rw [bind_w]
  refine noEx_w ?_
  let F : β → List (β × γ) := fun x => M.map fun y => (x, y)
  have flen : ∀ i, i ≤ L.length → ((L.take i).flatMap F).length = i * M.length := fun i => by
    induction i with
    | zero => intro _; simp
    | succ i ih =>
      intro hi
      rw [take_flat F L i (by omega), List.length_append, ih (by omega)]
      simp [F, Nat.succ_mul]
  refine walk_w (fun i gi => i ≤ L.length ∧ Gr g1 gi ∧ ∃ acc, gi[g1.length]? = some (.lst acc) ∧ A2 (fun (p : β × γ) r => Φ p.1 p.2 r gi) ((L.take i).flatMap F) acc) L.length (fun i gi ⟨hi, gr, acc, ha, h2⟩ => ⟨hi, (L.map u)[i]?, hw i gi gr, fun z => ?_, fun d hd => ?_⟩) (fun gi ⟨_, gr, acc, ha, h2⟩ => ?_) FUEL 0 _ ⟨Nat.zero_le _, Gr.add _ _, [], at_new, .nil⟩ (by unfold FUEL; omega)
  · have := List.getElem?_eq_none_iff.mp z
    rw [List.length_map] at this; omega
  · have hlt := (List.getElem?_eq_some_iff.mp hd).1
    rw [List.length_map] at hlt
    have hd' : d = u L[i] := by
      rw [List.getElem?_map, List.getElem?_eq_getElem hlt] at hd
      cases hd; rfl
    subst hd'
    refine ⟨hlt, ?_⟩
    obtain ⟨δ2, e1, w1, e2, e3, e4⟩ := step L[i] gi (List.getElem_mem hlt) gr
    rw [e1]
    show ((evI cl it1 δ2 gi).bind fun w1 g4 => walk w1 _ FUEL 0 g4).sat _ _
    rw [bind_w, e2, ok_w]
    refine walk_w (fun j gj => j ≤ M.length ∧ Gr g1 gj ∧ ∃ acc, gj[g1.length]? = some (.lst acc) ∧ A2 (fun (p : β × γ) r => Φ p.1 p.2 r gj) ((L.take i).flatMap F ++ (M.take j).map fun y => (L[i], y)) acc) M.length (fun j gj ⟨hj, gr2, acc, ha, h2⟩ => ⟨hj, (M.map v)[j]?, e3 j gj gr2, fun z => ?_, fun d hd => ?_⟩) (fun gj ⟨_, gr2, acc, ha, h2⟩ => ?_) FUEL 0 _ ⟨Nat.zero_le _, gr, acc, ha, by simpa using h2⟩ (by unfold FUEL; omega)
    · have := List.getElem?_eq_none_iff.mp z
      rw [List.length_map] at this; omega
    · have hjt := (List.getElem?_eq_some_iff.mp hd).1
      rw [List.length_map] at hjt
      have hd' : d = v M[j] := by
        rw [List.getElem?_map, List.getElem?_eq_getElem hjt] at hd
        cases hd; rfl
      subst hd'
      refine ⟨hjt, ?_⟩
      obtain ⟨δ3, e5, e6⟩ := e4 M[j] gj (List.getElem_mem hjt) gr2 (List.getElem?_eq_some_iff.mp ha).1
      rw [e5]
      show ((ev cl elt δ3 gj).bind fun y g7 => pushD g1.length y g7).sat _ _
      rw [bind_w]
      refine w_mono e6 fun y g3 ⟨hy, gr3⟩ => ?_
      have ha3 := gr3.at ha
      have hal := h2.len
      rw [List.length_append, flen i (by omega), List.length_map, List.length_take] at hal
      have hbb : acc.length < 1000000 := by
        have h1 : i * M.length + M.length ≤ L.length * M.length := by
          rw [← Nat.succ_mul]; exact Nat.mul_le_mul_right _ hlt
        omega
      unfold pushD
      rw [ha3]
      show (if acc.length < sizeLine then R.ok () (g3.set g1.length (.lst (acc ++ [y]))) else .bad).sat _ _
      rw [if_pos (by rw [sizeLine_eq]; omega)]
      have kp : Kp g1.length g3 (g3.set g1.length (.lst (acc ++ [y]))) := Kp.set _ _ _
      refine ⟨hjt, (gr2.trans gr3).set (Nat.le_refl _) _, _, Gr.set_at (List.getElem?_eq_some_iff.mp ha3).1, ?_⟩
      rw [List.take_succ_eq_append_getElem hjt, List.map_append, ← List.append_assoc]
      exact (h2.mono fun x z hz => mono _ _ z _ _ (mono _ _ z _ _ hz (Kp.gr gr3)) kp).app (.cons (mono _ _ _ _ _ hy kp) .nil)
    · rw [List.take_length] at h2
      refine ⟨hlt, gr2, acc, ha, ?_⟩
      rw [take_flat F L i hlt]
      exact h2
  · rw [List.take_length] at h2
    exact hq acc gi gr ha h2
end
end PD
set_option Elab.async false
set_option linter.all false
set_option maxRecDepth 100000
set_option maxHeartbeats 4000000
/-! PS1: the laws' own helpers, whatever the table: drawing from the stream. -/
namespace PD
open PySem PySem.Spec PyProof.Rows L2
theorem wf_seq {d e : D} {ds : List D} {g : G} {i : Int} (k : Nat) (hs : seqD d g = some ds) (hi : i = (k : Int)) (h : ds[k]? = some e) {Q : D → G → Prop} {Ex : Str → Fs → G → Prop} : (dIdx d (.int i) g).sat Q Ex = Q e g := ixs hs hi h
theorem at0 {d u : D} {r : List D} {g : G} (hs : seqD d g = some (u :: r)) {Q : D → G → Prop} {Ex : Str → Fs → G → Prop} : (dIdx d (.int 0) g).sat Q Ex = Q u g := ixs (k := 0) hs rfl rfl
theorem at1 {d u u1 : D} {r : List D} {g : G} (hs : seqD d g = some (u :: u1 :: r)) {Q : D → G → Prop} {Ex : Str → Fs → G → Prop} : (dIdx d (.int 1) g).sat Q Ex = Q u1 g := ixs (k := 1) hs rfl rfl
theorem at2 {d u u1 u2 : D} {r : List D} {g : G} (hs : seqD d g = some (u :: u1 :: u2 :: r)) {Q : D → G → Prop} {Ex : Str → Fs → G → Prop} : (dIdx d (.int 2) g).sat Q Ex = Q u2 g := ixs (k := 2) hs rfl rfl
theorem at3 {d u u1 u2 u3 : D} {r : List D} {g : G} (hs : seqD d g = some (u :: u1 :: u2 :: u3 :: r)) {Q : D → G → Prop} {Ex : Str → Fs → G → Prop} : (dIdx d (.int 3) g).sat Q Ex = Q u3 g := ixs (k := 3) hs rfl rfl
theorem put_k {g : G} {c : Nat} {ds : List D} {w : D} (k : Nat) (h : g[c]? = some (.lst ds)) (hk : k < ds.length) {Q : Unit → G → Prop} {Ex : Str → Fs → G → Prop} : (putR (.ref c) (.int (k : Int)) w g).sat Q Ex = Q () (g.set c (.lst (ds.set k w))) := by
  have : putR (.ref c) (.int (k : Int)) w g = .ok () (g.set c (.lst (ds.set k w))) := by
    unfold putR
    simp only [h]
    have e1 : (0 : Int) ≤ (k : Int) := by omega
    have e2 : (k : Int) < (ds.length : Nat) := by omega
    have : ixN ds.length (k : Int) = some k := by simp only [ixN, e1, e2, if_true, Int.toNat_natCast]
    rw [this]
  rw [this]; rfl
theorem x_putS {cl : Nat → List D → G → R D} {δ : Sl} {g : G} {p p' : Pos} {o i v : E} {Qn : Sl → G → Prop} {Qr : D → G → Prop} {Es : Str → Fs → Sl → G → Prop} : (exe cl (.put o i v p p') δ g).sat Qn Qr Es = (ev cl v δ g).sat (fun z g1 => (ev cl o δ g1).sat (fun x g2 => (ev cl i δ g2).sat (fun y g3 => (putR x y z g3).sat (fun _ g4 => Qn δ g4) (fun c fs g4 => Es c fs δ g4)) (fun c fs g3 => Es c fs δ g3)) (fun c fs g2 => Es c fs δ g2)) (fun c fs g1 => Es c fs δ g1) := by simp only [exe, toS_w, nx_w]
theorem pop0 {g : G} {c : Nat} {d : D} {ds : List D} (h : g[c]? = some (.lst (d :: ds))) {Q : D → G → Prop} {Ex : Str → Fs → G → Prop} : (mthD .pop (.ref c) [.int 0] g).sat Q Ex = Q d (g.set c (.lst ds)) := by
  have : dPop (.ref c) 0 g = .ok d (g.set c (.lst ds)) := by
    have e : lstAt (.ref c) g = some (c, d :: ds) := by
      show (match g[c]? with
        | some (.lst ds) => some (c, ds)
        | _ => none) = _
      rw [h]
    unfold dPop
    rw [e]
    have h2 : seqIndex? 0 (d :: ds).length = some 0 := by simp [seqIndex?]
    simp only [h2]
    rfl
  show (dPop (.ref c) 0 g).sat Q Ex = _
  rw [this]; rfl
theorem isl_at {k : Nat} {L : List D} {g : G} (h : g[k]? = some (.lst L)) : isLst (.ref k) g = true := by
  show (match g[k]? with
    | some (.lst _) => true
    | _ => false) = true
  rw [h]
theorem allP_ints (g : G) (k : Nat) : ∀ ns : List Int, allP (toP g (k + 1)) (ns.map D.int) = some (ns.map PyData.int)
  | [] => rfl
  | n :: ns => by
    show (match toP g (k + 1) (.int n), allP (toP g (k + 1)) (ns.map D.int) with
      | some x, some xs => some (x :: xs)
      | _, _ => none) = _
    rw [allP_ints g k ns]; rfl
theorem ints_lay : ∀ ns : List Int, PyData.canLayAll0 (ns.map PyData.int) = true ∧ PyData.depthAll (ns.map PyData.int) ≤ 1
  | [] => ⟨rfl, by simp [PyData.depthAll]⟩
  | n :: ns => by
    have := ints_lay ns
    exact ⟨by simp [PyData.canLayAll0, PyData.canLay0, this.1], by simp [PyData.depthAll, PyData.depth]; exact this.2⟩
theorem eq_nil {g : G} {a b : Nat} {ds : List D} {ps : List PyData} (ha : g[a]? = some (.lst ds)) (hb : g[b]? = some (.lst [])) (hp : allP (toP g 69) ds = some ps) (hs : SeqAt.shaped (.list ps) = true) : dEq (.ref a) (.ref b) g = some ds.isEmpty := by
  have h1 : toP g 70 (.ref a) = some (.list ps) := by
    show (match g[a]? with
      | some (.lst ds) => (allP (toP g 69) ds).map PyData.list
      | _ => none) = _
    rw [ha]
    show (allP (toP g 69) ds).map PyData.list = _
    rw [hp]; rfl
  have h2 : toP g 70 (.ref b) = some (.list []) := by
    show (match g[b]? with
      | some (.lst ds) => (allP (toP g 69) ds).map PyData.list
      | _ => none) = _
    rw [hb]; rfl
  have h3 : SeqAt.shaped (.list []) = true := by decide +kernel
  have hl : ∀ {ds : List D} {ps : List PyData}, allP (toP g 69) ds = some ps → ds.isEmpty = ps.isEmpty := fun {ds ps} h => by
    cases ds with
    | nil => cases h; rfl
    | cons d r =>
      unfold allP at h
      split at h
      · cases h; rfl
      · cases h
  unfold dEq
  rw [h1, h2]
  show (if (SeqAt.shaped (.list ps) && SeqAt.shaped (.list [])) = true then some (PyData.eqv (.list ps) (.list [])) else none) = _
  rw [hs, h3, hl hp]
  show some (PyData.eqv (.list ps) (.list [])) = _
  cases ps <;> rfl
theorem ne_nil_ints {g : G} {a b : Nat} (ns : List Int) (ha : g[a]? = some (.lst (ns.map D.int))) (hb : g[b]? = some (.lst [])) {Q : D → G → Prop} {Ex : Str → Fs → G → Prop} : (cmpD .NotEq (.ref a) (.ref b) g).sat Q Ex = Q (.bl (!ns.isEmpty)) g := by
  have hs : SeqAt.shaped (.list (ns.map PyData.int)) = true := by
    obtain ⟨h1, h2⟩ := ints_lay ns
    unfold SeqAt.shaped
    rw [Bool.and_eq_true, decide_eq_true_iff]
    exact ⟨h1, by simp [PyData.depth]; omega⟩
  have e := eq_nil ha hb (allP_ints g 68 ns) hs
  show (ofB ((dEq (.ref a) (.ref b) g).map (!·)) g).sat Q Ex = _
  rw [e]
  show Q (.bl (!(ns.map D.int).isEmpty)) g = _
  rw [show (ns.map D.int).isEmpty = ns.isEmpty from by cases ns <;> rfl]
/-- the stream: its cells at c, itself at s -/
structure StV (c s : Nat) (ns : List Int) (a t m : Int) (g : G) : Prop where
  ne : c ≠ s
  cells : g[c]? = some (.lst (ns.map D.int))
  row : g[s]? = some (.lst [.ref c, .int a, .int t, .int m])
  len : ns.length ≤ 63
  a0 : 0 ≤ a
  m0 : 0 ≤ m
  m1 : m < 2147483647
def St (c s : Nat) (T : Int) (g : G) : Prop := ∃ ns a t m, StV c s ns a t m g ∧ 0 ≤ t ∧ t ≤ T
theorem StV.gr {c s : Nat} {ns : List Int} {a t m : Int} {g g' : G} (h : StV c s ns a t m g) (r : Gr g g') : StV c s ns a t m g' := ⟨h.ne, r.at h.cells, r.at h.row, h.len, h.a0, h.m0, h.m1⟩
theorem St.gr {c s : Nat} {T : Int} {g g' : G} (h : St c s T g) (r : Gr g g') : St c s T g' := by
  obtain ⟨ns, a, t, m, h, h2⟩ := h
  exact ⟨ns, a, t, m, h.gr r, h2⟩
theorem St.up {c s : Nat} {T U : Int} {g : G} (h : St c s T g) (r : T ≤ U) : St c s U g := by
  obtain ⟨ns, a, t, m, h, h2, h3⟩ := h
  exact ⟨ns, a, t, m, h, h2, by omega⟩
theorem St.set {c s : Nat} {T : Int} {g : G} (h : St c s T g) {k : Nat} (o : DO) (h1 : k ≠ c) (h2 : k ≠ s) : St c s T (g.set k o) := by
  obtain ⟨ns, a, t, m, h, h3⟩ := h
  exact ⟨ns, a, t, m, ⟨h.ne, by rw [List.getElem?_set_ne h1]; exact h.cells, by rw [List.getElem?_set_ne h2]; exact h.row, h.len, h.a0, h.m0, h.m1⟩, h3⟩
def bDrawW : Ss := .cons
    (.asg 2 e0 p0 (.blt .abs p0 (.cons (.mth .pop (.idx (.var 0 e0 p0) (.num 0 0 p0) p0) p0 (.cons (.num 0 0 p0) .nil) p0) .nil) p0) p0)
    (.cons
    (.put (.var 0 e0 p0) (.num 3 0 p0) (.bin .Mod (.blt .int p0 (.cons (.bin .Add (.bin .Add (.bin .Mult (.idx (.var 0 e0 p0) (.num 3 0 p0) p0) (.num 8191 0 p0) p0) (.var 2 e0 p0) p0) (.num 3 0 p0) p0) .nil) p0) (.num 2147483647 0 p0) p0) p0 p0)
    (.cons
    (.put (.var 0 e0 p0) (.num 1 0 p0) (.ife (.cmp .GtE (.var 2 e0 p0) (.bin .Pow (.num 10 0 p0) (.num 18 0 p0) p0) p0) (.var 2 e0 p0) (.num 0 0 p0) p0) p0 p0)
    .nil))
def bDrawC : E := (.bop true (.cons (.cmp .Eq (.idx (.var 0 e0 p0) (.num 1 0 p0) p0) (.num 0 0 p0) p0) (.cons (.cmp .NotEq (.idx (.var 0 e0 p0) (.num 0 0 p0) p0) (.lst .nil p0) p0) .nil)) p0)
def bDrawR : Ss := .cons
  (.ifs (.cmp .Gt (.idx (.var 0 e0 p0) (.num 1 0 p0) p0) (.num 0 0 p0) p0) (.cons
    (.asg 3 e0 p0 (.bin .Mod (.blt .int p0 (.cons (.idx (.var 0 e0 p0) (.num 1 0 p0) p0) .nil) p0) (.var 1 e0 p0) p0) p0)
    (.cons
    (.put (.var 0 e0 p0) (.num 1 0 p0) (.bin .FloorDiv (.idx (.var 0 e0 p0) (.num 1 0 p0) p0) (.var 1 e0 p0) p0) p0 p0)
    (.cons
    (.ret (.var 3 e0 p0) p0)
    .nil))) .nil p0)
  (.cons
  (.asg 4 e0 p0 (.bin .Mod (.blt .int p0 (.cons (.bin .Pow (.bin .Add (.bin .Add (.idx (.var 0 e0 p0) (.num 3 0 p0) p0) (.bin .Mult (.num 7919 0 p0) (.idx (.var 0 e0 p0) (.num 2 0 p0) p0) p0) p0) (.num 104729 0 p0) p0) (.num 5 0 p0) p0) .nil) p0) (.num 2147483629 0 p0) p0) p0)
  (.cons
  (.ret (.bin .Mod (.bin .Mod (.blt .int p0 (.cons (.bin .Pow (.bin .Add (.bin .Add (.bin .Mult (.var 4 e0 p0) (.num 48271 0 p0) p0) (.bin .Mult (.num 30011 0 p0) (.idx (.var 0 e0 p0) (.num 2 0 p0) p0) p0) p0) (.num 29 0 p0) p0) (.num 3 0 p0) p0) .nil) p0) (.num 1000000007 0 p0) p0) (.var 1 e0 p0) p0) p0)
  .nil))
def bDraw : Ss := .cons
  (.put (.var 0 e0 p0) (.num 2 0 p0) (.bin .Add (.idx (.var 0 e0 p0) (.num 2 0 p0) p0) (.num 1 0 p0) p0) p0 p0)
  (.cons (.whl bDrawC bDrawW p0) bDrawR)
theorem mulOk_l {i j : Int} (h : i.natAbs < 2 ^ 64) : mulOk i j = true := by
  unfold mulOk
  rw [decide_eq_true h]
  rfl
theorem mulOk_r {i j : Int} (h : j.natAbs < 2 ^ 64) : mulOk i j = true := by
  unfold mulOk
  rw [decide_eq_true h, Bool.or_true]
  rfl
theorem divOk_lt {k : Int} (h : 1 ≤ k) (h2 : k ≤ 8000) : divOk k = true := by
  unfold divOk
  have := Nat.log2_le_self k.natAbs
  rw [decide_eq_true (show 0 < k by omega), decide_eq_true (show k.natAbs.log2 < 9000 by omega)]
  rfl
section
variable {cl : Nat → List D → G → R D} {Qn : Sl → G → Prop} {Qr : D → G → Prop} {Es : Str → Fs → Sl → G → Prop}
@[simp] theorem addII {i j : Int} {g : G} {Q : D → G → Prop} {Ex : Str → Fs → G → Prop} : (binD .Add (.int i) (.int j) g).sat Q Ex = Q (.int (i + j)) g := rfl
@[simp] theorem subII {i j : Int} {g : G} {Q : D → G → Prop} {Ex : Str → Fs → G → Prop} : (binD .Sub (.int i) (.int j) g).sat Q Ex = Q (.int (i - j)) g := rfl
theorem mulII {i j : Int} {g : G} {Q : D → G → Prop} {Ex : Str → Fs → G → Prop} (h : mulOk i j = true) : (binD .Mult (.int i) (.int j) g).sat Q Ex = Q (.int (i * j)) g := by
  show (if mulOk i j then R.ok (.int (i * j)) g else .bad).sat Q Ex = _
  rw [if_pos h]; rfl
theorem divII {i j : Int} {g : G} {Q : D → G → Prop} {Ex : Str → Fs → G → Prop} (h : divOk j = true) : (binD .FloorDiv (.int i) (.int j) g).sat Q Ex = Q (.int (i / j)) g := by
  show (if divOk j then R.ok (.int (i / j)) g else .bad).sat Q Ex = _
  rw [if_pos h]; rfl
theorem modII {i j : Int} {g : G} {Q : D → G → Prop} {Ex : Str → Fs → G → Prop} (h : 0 < j) : (binD .Mod (.int i) (.int j) g).sat Q Ex = Q (.int (i % j)) g := by
  show (if decide (0 < j) then R.ok (.int (i % j)) g else .bad).sat Q Ex = _
  rw [if_pos (decide_eq_true h)]; rfl
theorem powII {i j : Int} {g : G} {Q : D → G → Prop} {Ex : Str → Fs → G → Prop} (h : powOk i j = true) : (binD .Pow (.int i) (.int j) g).sat Q Ex = Q (.int (i ^ j.toNat)) g := by
  show (if powOk i j then R.ok (.int (i ^ j.toNat)) g else .bad).sat Q Ex = _
  rw [if_pos h]; rfl
@[simp] theorem absI {i : Int} {g : G} {Q : D → G → Prop} {Ex : Str → Fs → G → Prop} : (bltD .abs [.int i] g).sat Q Ex = Q (.int (if i < 0 then -i else i)) g := rfl
@[simp] theorem intI {i : Int} {g : G} {Q : D → G → Prop} {Ex : Str → Fs → G → Prop} : (bltD .int [.int i] g).sat Q Ex = Q (.int i) g := rfl
theorem powOk_of {i : Int} {j : Int} (h1 : 0 ≤ j) (h2 : j ≤ 1000000) (h : i.natAbs < 2 ^ 64) : powOk i j = true := by
  unfold powOk
  rw [decide_eq_true h1, decide_eq_true h2, decide_eq_true h]; rfl
theorem x_whl {c : E} {a : Ss} {p : Pos} {δ : Sl} {g : G} : (exe cl (.whl c a p) δ g).sat Qn Qr Es = (whileS (evT cl c) (exes cl a) FUEL δ g).sat Qn Qr Es := rfl
theorem drawW_w {x2 : Option D} {many : Int} (b c s : Nat) (hb : c < b) (hb2 : s < b) (ns : List Int) (a t m : Int) (g g0 : G) (h : StV c s ns a t m g) (hx : Sx b g0 g) (hg : b ≤ g0.length)
    (hq : ∀ ns' a' m' x2' g', StV c s ns' a' t m' g' → Sx b g0 g' → Qn [some (.ref s), some (.int many), x2', none, none] g') :
    (exe cl (.whl bDrawC bDrawW p0) [some (.ref s), some (.int many), x2, none, none] g).sat Qn Qr Es := by
  rw [x_whl]
  refine while_w (fun k δ gi => ∃ ns a m x2, ns.length = k ∧ StV c s ns a t m gi ∧ Sx b g0 gi ∧ δ = [some (.ref s), some (.int many), x2, none, none]) (fun k δ gi ⟨ns, a, m, x2, hk, h, hx, hδ⟩ => ?_) FUEL ns.length _ g ⟨ns, a, m, x2, rfl, h, hx, rfl⟩ (by have := h.len; unfold FUEL; omega)
  subst hδ
  have hs := seq_ref h.row
  by_cases ea : a = 0
  · have h1 : StV c s ns a t m (gi ++ [DO.lst []]) := h.gr (Gr.add _ _)
    have hx1 : Sx b g0 (gi ++ [DO.lst []]) := hx.trans (Sx.gr (Gr.add _ _))
    have en : ∀ {Q : D → G → Prop} {Ex : Str → Fs → G → Prop}, (cmpD .NotEq (.ref c) (.ref gi.length) (gi ++ [DO.lst []])).sat Q Ex = Q (.bl (!ns.isEmpty)) (gi ++ [DO.lst []]) := fun {Q Ex} => ne_nil_ints ns h1.cells at_new
    simp -implicitDefEqProofs [bDrawC, sizeLine_eq, at1 hs, at0 hs, ea, en]
    cases ns with
    | nil => simp -implicitDefEqProofs; exact hq _ _ _ _ _ h1 hx1
    | cons d ns =>
      have hs1 := seq_ref h1.row
      have hpop := fun {Q : D → G → Prop} {Ex : Str → Fs → G → Prop} => pop0 (Q := Q) (Ex := Ex) (show (gi ++ [DO.lst []])[c]? = some (.lst (D.int d :: ns.map D.int)) from h1.cells)
      have hcl := (List.getElem?_eq_some_iff.mp h1.cells).1
      have hsl := (List.getElem?_eq_some_iff.mp h1.row).1
      generalize hG1 : (gi ++ [DO.lst []]) = G1 at *
      generalize hG2 : G1.set c (.lst (ns.map D.int)) = G2 at *
      have c2 : G2[c]? = some (.lst (ns.map D.int)) := by rw [← hG2]; exact List.getElem?_set_self hcl
      have r2 : G2[s]? = some (.lst [.ref c, .int a, .int t, .int m]) := by rw [← hG2, List.getElem?_set_ne h1.ne]; exact h1.row
      have hs2 := seq_ref r2
      have hsl2 : s < G2.length := (List.getElem?_eq_some_iff.mp r2).1
      have hx2 : Sx b g0 G2 := by rw [← hG2]; exact hx1.set _ hb
      have m0 := h.m0
      have m1 := h.m1
      have hmm : mulOk m 8191 = true := mulOk_l (by omega)
      simp -implicitDefEqProofs [bDrawW, at0 hs1, isl_at h1.cells, hpop, hG2, x_putS, at3 hs2, mulII hmm, modII (show (0 : Int) < 2147483647 by omega)]
      generalize hv : (if d < 0 then -d else d) = v
      have hv0 : 0 ≤ v := by rw [← hv]; split <;> omega
      have put3' : ∀ w : D, ∀ {Q : Unit → G → Prop} {Ex : Str → Fs → G → Prop}, (putR (.ref s) (.int 3) w G2).sat Q Ex = Q () (G2.set s (.lst [.ref c, .int a, .int t, w])) := fun w {Q Ex} => by
        rw [show (3 : Int) = ((3 : Nat) : Int) from rfl, put_k 3 r2 (by simp)]; rfl
      simp -implicitDefEqProofs only [put3']
      generalize hm' : (m * 8191 + v + 3) % 2147483647 = m'
      have hm0 : 0 ≤ m' := by rw [← hm']; exact Int.emod_nonneg _ (by omega)
      have hm1 : m' < 2147483647 := by rw [← hm']; exact Int.emod_lt_of_pos _ (by omega)
      have r3 : (G2.set s (.lst [.ref c, .int a, .int t, .int m']))[s]? = some (.lst [.ref c, .int a, .int t, .int m']) := List.getElem?_set_self hsl2
      have hne := h1.ne
      have st : ∀ a' : Int, 0 ≤ a' → StV c s ns a' t m' (G2.set s (.lst [.ref c, .int a', .int t, .int m'])) := fun a' ha' => ⟨hne, by rw [List.getElem?_set_ne (fun z => hne z.symm)]; exact c2, List.getElem?_set_self hsl2, by have := h.len; simp at this; omega, ha', hm0, hm1⟩
      have fin : ∀ a' : Int, 0 ≤ a' → ∃ k', k' < k ∧ ∃ ns' a'' m'' x2', ns'.length = k' ∧ StV c s ns' a'' t m'' (G2.set s (.lst [.ref c, .int a', .int t, .int m'])) ∧ Sx b g0 (G2.set s (.lst [.ref c, .int a', .int t, .int m'])) ∧ [some (D.ref s), some (.int many), some (.int v), none, none] = [some (D.ref s), some (.int many), x2', none, none] := fun a' ha' => ⟨ns.length, by rw [← hk]; simp, ns, a', m', _, rfl, st a' ha', hx2.set _ hb2, rfl⟩
      have hpw : powOk 10 18 = true := by decide +kernel
      simp -implicitDefEqProofs only [powII hpw]
      have put1' : ∀ w : D, ∀ {Q : Unit → G → Prop} {Ex : Str → Fs → G → Prop}, (putR (.ref s) (.int 1) w (G2.set s (.lst [.ref c, .int a, .int t, .int m']))).sat Q Ex = Q () (G2.set s (.lst [.ref c, w, .int t, .int m'])) := fun w {Q Ex} => by
        rw [show (1 : Int) = ((1 : Nat) : Int) from rfl, put_k 1 r3 (by simp), List.set_set]; rfl
      by_cases ge : (10 : Int) ^ (18 : Int).toNat ≤ v
      · simp -implicitDefEqProofs only [geI, asB_w, decide_eq_true ge, if_true]
        simp -implicitDefEqProofs [put1']
        have := fin v hv0
        simpa -implicitDefEqProofs using this
      · simp -implicitDefEqProofs only [geI, asB_w, decide_eq_false ge]
        simp -implicitDefEqProofs [put1']
        have := fin 0 (by omega)
        simpa -implicitDefEqProofs using this
  · simp -implicitDefEqProofs [bDrawC, at1 hs, ea]
    exact hq _ _ _ _ _ h hx
theorem drawR_w {x2 : Option D} {many : Int} (b c s : Nat) (hb : c < b) (hb2 : s < b) (ns : List Int) (a t m : Int) (g g0 : G) (h : StV c s ns a t m g) (hx : Sx b g0 g) (ht : 0 ≤ t) (ht2 : t ≤ 2 ^ 40) (hm1 : 1 ≤ many) (hm2 : many ≤ 8000)
    (hq : ∀ r a' g', 0 ≤ r → r < many → StV c s ns a' t m g' → Sx b g0 g' → Qr (.int r) g') :
    (exes cl bDrawR [some (.ref s), some (.int many), x2, none, none] g).sat Qn Qr Es := by
  have hs := seq_ref h.row
  have hsl := (List.getElem?_eq_some_iff.mp h.row).1
  have m0 := h.m0
  have m1 := h.m1
  have a0 := h.a0
  by_cases ea : 0 < a
  · have st := hq (a % many) (a / many) (g.set s (.lst [.ref c, .int (a / many), .int t, .int m])) (Int.emod_nonneg _ (by omega)) (Int.emod_lt_of_pos _ (by omega)) ⟨h.ne, by rw [List.getElem?_set_ne (fun z => h.ne z.symm)]; exact h.cells, List.getElem?_set_self hsl, h.len, Int.ediv_nonneg a0 (by omega), m0, m1⟩ (hx.set _ hb2)
    have put1' : ∀ w : D, ∀ {Q : Unit → G → Prop} {Ex : Str → Fs → G → Prop}, (putR (.ref s) (.int 1) w g).sat Q Ex = Q () (g.set s (.lst [.ref c, w, .int t, .int m])) := fun w {Q Ex} => by
      rw [show (1 : Int) = ((1 : Nat) : Int) from rfl, put_k 1 h.row (by simp)]; rfl
    simp -implicitDefEqProofs [bDrawR, at1 hs, ea, modII (show (0 : Int) < many by omega), x_putS, divII (divOk_lt hm1 hm2), put1']
    exact st
  · have p1 : powOk (m + 7919 * t + 104729) 5 = true := powOk_of (by omega) (by omega) (by omega)
    have mu1 : mulOk 7919 t = true := mulOk_l (by decide)
    have mu3 : mulOk 30011 t = true := mulOk_l (by decide)
    simp -implicitDefEqProofs only [bDrawR, x_cons, x_ifs, u_cmp, w_idx, w_var, w_num, List.getElem?_cons_zero, List.getElem?_cons_succ, Option.join_some, some_w, at1 hs, gtI, asB_w, decide_eq_false ea, x_nil, x_asg, w_bin, w_blt, wa_cons, wa_nil, at3 hs, at2 hs, mulII mu1, addII, powII p1, intI, modII (show (0 : Int) < 2147483629 by omega), List.set, x_ret]
    rw [if_neg (by simp)]
    generalize hmx : (m + 7919 * t + 104729) ^ (5 : Int).toNat % 2147483629 = x
    have hx0 : 0 ≤ x := by rw [← hmx]; exact Int.emod_nonneg _ (by omega)
    have hx1 : x < 2147483629 := by rw [← hmx]; exact Int.emod_lt_of_pos _ (by omega)
    have mu2 : mulOk x 48271 = true := mulOk_l (by omega)
    have p2 : powOk (x * 48271 + 30011 * t + 29) 3 = true := powOk_of (by omega) (by omega) (by omega)
    simp -implicitDefEqProofs only [at2 hs, mulII mu2, mulII mu3, addII, powII p2, intI, modII (show (0 : Int) < 1000000007 by omega), modII (show (0 : Int) < many by omega)]
    exact hq _ a g (Int.emod_nonneg _ (by omega)) (Int.emod_lt_of_pos _ (by omega)) h hx
theorem draw_w {many : Int} {T : Int} (b c s : Nat) (hb : c < b) (hb2 : s < b) (g : G) (hg : b ≤ g.length) (h : St c s T g) (hT : T < 2 ^ 40) (hm1 : 1 ≤ many) (hm2 : many ≤ 8000)
    (hq : ∀ r g', 0 ≤ r → r < many → St c s (T + 1) g' → Sx b g g' → Qr (.int r) g') :
    (exes cl bDraw [some (.ref s), some (.int many), none, none, none] g).sat Qn Qr Es := by
  obtain ⟨ns, a, t, m, h, t0, tT⟩ := h
  have hs := seq_ref h.row
  have hsl := (List.getElem?_eq_some_iff.mp h.row).1
  have put2 : ∀ w : D, ∀ {Q : Unit → G → Prop} {Ex : Str → Fs → G → Prop}, (putR (.ref s) (.int 2) w g).sat Q Ex = Q () (g.set s (.lst [.ref c, .int a, w, .int m])) := fun w {Q Ex} => by
    rw [show (2 : Int) = ((2 : Nat) : Int) from rfl, put_k 2 h.row (by simp)]; rfl
  have h1 : StV c s ns a (t + 1) m (g.set s (.lst [.ref c, .int a, .int (t + 1), .int m])) := ⟨h.ne, by rw [List.getElem?_set_ne (fun z => h.ne z.symm)]; exact h.cells, List.getElem?_set_self hsl, h.len, h.a0, h.m0, h.m1⟩
  unfold bDraw
  rw [x_cons]
  simp -implicitDefEqProofs only [x_putS, w_bin, w_idx, w_var, w_num, List.getElem?_cons_zero, Option.join_some, some_w, at2 hs, addII, put2]
  rw [x_cons]
  refine drawW_w b c s hb hb2 ns a (t + 1) m _ g h1 ((Sx.refl b g).set _ hb2) hg fun ns' a' m' x2' g' h2 hx2 => ?_
  refine drawR_w b c s hb hb2 ns' a' (t + 1) m' g' g h2 hx2 (by omega) (by omega) hm1 hm2 fun r a'' g'' r0 r1 h3 hx3 => ?_
  exact hq r g'' r0 r1 ⟨ns', a'', t + 1, m', h3, by omega, by omega⟩ hx3
end
end PD
set_option Elab.async false
set_option linter.all false
set_option maxRecDepth 100000
set_option maxHeartbeats 4000000
/-! PS2: the laws' own helpers: pick, same. -/
namespace PD
open PySem PySem.Spec PyProof.Rows L2
/-- where the stream lies: all of it below b -/
structure Spot where
  b : Nat
  c : Nat
  s : Nat
  hc : c < b
  hs : s < b
structure Stm (z : Spot) (T : Nat) (g : G) : Prop where
  st : St z.c z.s T g
  len : z.b ≤ g.length
theorem Stm.gr {z : Spot} {T : Nat} {g g' : G} (h : Stm z T g) (r : Gr g g') : Stm z T g' := ⟨h.st.gr r, Nat.le_trans h.len r.len⟩
theorem Stm.up {z : Spot} {T U : Nat} {g : G} (h : Stm z T g) (r : T ≤ U) : Stm z U g := ⟨h.st.up (by omega), h.len⟩
theorem Stm.set {z : Spot} {T : Nat} {g : G} (h : Stm z T g) {k : Nat} (o : DO) (hk : z.b ≤ k) : Stm z T (g.set k o) := ⟨h.st.set o (by have := z.hc; omega) (by have := z.hs; omega), by rw [List.length_set]; exact h.len⟩
def DrawS (cl : Nat → List D → G → R D) (f : Nat) : Prop := ∀ (z : Spot) (T : Nat) (g : G) (many : Int), Stm z T g → T < 2 ^ 39 → 1 ≤ many → many ≤ 8000 →
  (cl f [.ref z.s, .int many] g).w fun y g' => (∃ r, 0 ≤ r ∧ r < many ∧ y = .int r) ∧ Stm z (T + 1) g' ∧ Sx z.b g g'
theorem draw_run {P : Tab} {f : Nat} {F : FunT} (hF : P f = some F) (hb : F.body.er = bDraw) (hps : F.ps.length = 2) (hN : F.N.length = 5) (n : Nat) : DrawS (runF P (n + 1)) f := by
  intro z T g many h hT h1 h2
  rw [run_er hF hb (by rw [hps]; rfl), hN]
  show ((exes (runF P n) bDraw [some (.ref z.s), some (.int many), none, none, none] g).fin).w _
  simp only [R.w, fin_w]
  refine draw_w z.b z.c z.s z.hc z.hs g h.len h.st (by omega) h1 h2 fun r g' r0 r1 st sx => ?_
  exact ⟨⟨r, r0, r1, rfl⟩, ⟨by exact_mod_cast st, Nat.le_trans h.len sx.len⟩, sx⟩
def bPick (f : Nat) : Ss := .cons
  (.ret (.idx (.var 1 e0 p0) (.call f e0 p0 (.cons (.var 0 e0 p0) (.cons (.blt .len p0 (.cons (.var 1 e0 p0) .nil) p0) .nil)) p0) p0) p0)
  .nil
theorem pick_w {cl : Nat → List D → G → R D} {f : Nat} (hd : DrawS cl f) {z : Spot} {T : Nat} {g : G} (h : Stm z T g) (hT : T < 2 ^ 39) {k : Nat} {ds : List D} (hk : g[k]? = some (.lst ds)) (hb : z.b ≤ k) (hn : ds ≠ []) (hl : ds.length ≤ 8000)
    {Qn : Sl → G → Prop} {Qr : D → G → Prop} {Es : Str → Fs → Sl → G → Prop} (hq : ∀ i (hi : i < ds.length) g', Stm z (T + 1) g' → Sx z.b g g' → Qr ds[i] g') :
    (exes cl (bPick f) [some (.ref z.s), some (.ref k)] g).sat Qn Qr Es := by
  have hp : 0 < ds.length := List.length_pos_iff.mpr hn
  simp -implicitDefEqProofs [bPick, lens (seq_ref hk)]
  refine w_mono (hd z T g ds.length h hT (by omega) (by omega)) fun y g' ⟨⟨r, r0, r1, e⟩, st, sx⟩ => ?_
  subst e
  have hk' := sx.at hb hk
  obtain ⟨i, rfl⟩ : ∃ i : Nat, r = i := ⟨r.toNat, by omega⟩
  have hi : i < ds.length := by omega
  rw [wf_seq i (seq_ref hk') rfl (List.getElem?_eq_getElem hi)]
  exact hq i hi g' st sx
def PickS (cl : Nat → List D → G → R D) (f : Nat) : Prop := ∀ (z : Spot) (T : Nat) (g : G) (k : Nat) (ds : List D), Stm z T g → T < 2 ^ 39 → g[k]? = some (.lst ds) → z.b ≤ k → ds ≠ [] → ds.length ≤ 8000 →
  (cl f [.ref z.s, .ref k] g).w fun y g' => (∃ i, ∃ hi : i < ds.length, y = ds[i]) ∧ Stm z (T + 1) g' ∧ Sx z.b g g'
theorem pick_run {P : Tab} {f fd : Nat} {F : FunT} (hF : P f = some F) (hb : F.body.er = bPick fd) (hps : F.ps.length = 2) (hN : F.N.length = 2) (n : Nat) (hd : DrawS (runF P n) fd) : PickS (runF P (n + 1)) f := by
  intro z T g k ds h hT hk hb' hn hl
  rw [run_er hF hb (by rw [hps]; rfl), hN]
  show ((exes (runF P n) (bPick fd) [some (.ref z.s), some (.ref k)] g).fin).w _
  simp only [R.w, fin_w]
  exact pick_w hd h hT hk hb' hn hl fun i hi g' st sx => ⟨⟨i, hi, rfl⟩, st, sx⟩
/-! ### same -/
inductive Sm (g : G) : Nat → D → D → Prop
  | int {k : Nat} {i : Int} : Sm g k (.int i) (.int i)
  | str {k : Nat} {x : Str} : PyData.strOk x = true → Sm g k (.str x) (.str x)
  | bl {k : Nat} {b : Bool} : Sm g k (.bl b) (.bl b)
  | non {k : Nat} : Sm g k .non .non
  | tup {k : Nat} {ds es : List D} : es.length = ds.length → ds.length < 1000000 → (∀ (i : Nat) (x y : D), ds[i]? = some x → es[i]? = some y → Sm g k x y) → Sm g (k + 1) (.tup ds) (.tup es)
  | lst {k a b : Nat} {ds es : List D} : g[a]? = some (.lst ds) → g[b]? = some (.lst es) → es.length = ds.length → ds.length < 1000000 → (∀ (i : Nat) (x y : D), ds[i]? = some x → es[i]? = some y → Sm g k x y) → Sm g (k + 1) (.ref a) (.ref b)
theorem Sm.gr {g g' : G} (r : Gr g g') {k : Nat} {x y : D} (h : Sm g k x y) : Sm g' k x y := by
  induction h with
  | int => exact .int
  | str h => exact .str h
  | bl => exact .bl
  | non => exact .non
  | tup a b _ ih => exact .tup a b ih
  | lst a b c d _ ih => exact .lst (r.at a) (r.at b) c d ih
def bSame (f : Nat) : Ss := .cons
  (.ifs (.blt .isinstance p0 (.cons (.var 1 e0 p0) (.cons (.tup (.cons (.typ .list p0) (.cons (.typ .tuple p0) .nil)) 0 p0) .nil)) p0) (.cons
    (.ifs (.bop false (.cons (.cmp .NotEq (.blt .isinstance p0 (.cons (.var 0 e0 p0) (.cons (.typ .list p0) .nil)) p0) (.blt .isinstance p0 (.cons (.var 1 e0 p0) (.cons (.typ .list p0) .nil)) p0) p0) (.cons (.cmp .NotEq (.blt .isinstance p0 (.cons (.var 0 e0 p0) (.cons (.typ .tuple p0) .nil)) p0) (.blt .isinstance p0 (.cons (.var 1 e0 p0) (.cons (.typ .tuple p0) .nil)) p0) p0) .nil)) p0) (.cons
      (.ret (.boo false 0 p0) p0)
      .nil) .nil p0)
    (.cons
    (.ret (.bop true (.cons (.cmp .Eq (.blt .len p0 (.cons (.var 0 e0 p0) .nil) p0) (.blt .len p0 (.cons (.var 1 e0 p0) .nil) p0) p0) (.cons (.blt .all p0 (.cons (.lc (.call f e0 p0 (.cons (.var 2 e0 p0) (.cons (.var 3 e0 p0) .nil)) p0) (.tup [(.name 2 e0 p0), (.name 3 e0 p0)] 0 p0) (.zip p0 (.var 0 e0 p0) (.var 1 e0 p0) p0) .nil s0 [(e0, 2), (e0, 3)] p0) .nil) p0) .nil)) p0) p0)
    .nil)) .nil p0)
  (.cons
  (.ifs (.blt .isinstance p0 (.cons (.var 1 e0 p0) (.cons (.typ .dict p0) .nil)) p0) (.cons
    (.ifs (.bop false (.cons (.nt (.blt .isinstance p0 (.cons (.var 0 e0 p0) (.cons (.typ .dict p0) .nil)) p0) p0) (.cons (.cmp .NotEq (.blt .len p0 (.cons (.var 0 e0 p0) .nil) p0) (.blt .len p0 (.cons (.var 1 e0 p0) .nil) p0) p0) .nil)) p0) (.cons
      (.ret (.boo false 0 p0) p0)
      .nil) .nil p0)
    (.cons
    (.ret (.blt .all p0 (.cons (.lc (.bop true (.cons (.cmp .In (.var 4 e0 p0) (.var 0 e0 p0) p0) (.cons (.call f e0 p0 (.cons (.idx (.var 0 e0 p0) (.var 4 e0 p0) p0) (.cons (.idx (.var 1 e0 p0) (.var 4 e0 p0) p0) .nil)) p0) .nil)) p0) (.name 4 e0 p0) (.seq (.var 1 e0 p0)) .nil s0 [(e0, 4)] p0) .nil) p0) p0)
    .nil)) .nil p0)
  (.cons
  (.ifs (.bop false (.cons (.blt .isinstance p0 (.cons (.var 1 e0 p0) (.cons (.typ .bool p0) .nil)) p0) (.cons (.blt .isinstance p0 (.cons (.var 0 e0 p0) (.cons (.typ .bool p0) .nil)) p0) .nil)) p0) (.cons
    (.ret (.bop true (.cons (.blt .isinstance p0 (.cons (.var 1 e0 p0) (.cons (.typ .bool p0) .nil)) p0) (.cons (.blt .isinstance p0 (.cons (.var 0 e0 p0) (.cons (.typ .bool p0) .nil)) p0) (.cons (.cmp .Eq (.var 0 e0 p0) (.var 1 e0 p0) p0) .nil))) p0) p0)
    .nil) .nil p0)
  (.cons
  (.ret (.bop true (.cons (.nt (.blt .isinstance p0 (.cons (.var 0 e0 p0) (.cons (.tup (.cons (.typ .list p0) (.cons (.typ .tuple p0) (.cons (.typ .dict p0) .nil))) 0 p0) .nil)) p0) p0) (.cons (.cmp .Eq (.var 0 e0 p0) (.var 1 e0 p0) p0) .nil)) p0) p0)
  .nil)))
@[simp] theorem neB {a b : Bool} {g : G} {Q : D → G → Prop} {Ex : Str → Fs → G → Prop} : (cmpD .NotEq (.bl a) (.bl b) g).sat Q Ex = Q (.bl (a != b)) g := by cases a <;> cases b <;> rfl
@[simp] theorem eqB {a b : Bool} {g : G} {Q : D → G → Prop} {Ex : Str → Fs → G → Prop} : (cmpD .Eq (.bl a) (.bl b) g).sat Q Ex = Q (.bl (a == b)) g := by cases a <;> cases b <;> rfl
@[simp] theorem eqNN {g : G} {Q : D → G → Prop} {Ex : Str → Fs → G → Prop} : (cmpD .Eq .non .non g).sat Q Ex = Q (.bl true) g := rfl
theorem zipAt_eq : ∀ (ds es : List D) (i : Nat), zipAt i (ds, es) = ((ds.zip es).map fun p => D.tup [p.1, p.2])[i]?
  | [], es, i => by simp [zipAt]
  | d :: ds, [], i => by
    unfold zipAt
    simp
  | d :: ds, e :: es, 0 => rfl
  | d :: ds, e :: es, i + 1 => zipAt_eq ds es i
theorem all_true {out : List D} (h : ∀ y ∈ out, y = .bl true) : boolsD out = some (out.map fun _ => true) := by
  induction out with
  | nil => rfl
  | cons y ys ih =>
    rw [h y List.mem_cons_self]
    show (boolsD ys).map (true :: ·) = _
    rw [ih fun z hz => h z (List.mem_cons_of_mem _ hz)]
    rfl
theorem all_w {k : Nat} {out : List D} {g : G} (hk : g[k]? = some (.lst out)) (h : ∀ y ∈ out, y = .bl true) {Q : D → G → Prop} {Ex : Str → Fs → G → Prop} : (bltD .all [.ref k] g).sat Q Ex = Q (.bl true) g := by
  show (ofB (((lstD (.ref k) g).bind boolsD).map fun bs => bs.all id) g).sat Q Ex = _
  have e : lstD (.ref k) g = some out := by
    show (match g[k]? with
      | some (.lst ds) => some ds
      | _ => none) = _
    rw [hk]
  rw [e]
  show (ofB ((boolsD out).map fun bs => bs.all id) g).sat Q Ex = _
  rw [all_true h]
  show Q (.bl ((out.map fun _ => true).all id)) g = _
  have : (out.map fun _ => true).all id = true := by simp
  rw [this]
theorem A2.all_r {β γ : Type} {Φ : β → γ → Prop} {V : γ → Prop} (h : ∀ x y, Φ x y → V y) : ∀ {xs : List β} {ys : List γ}, A2 Φ xs ys → ∀ y ∈ ys, V y
  | _, _, .nil, y, hy => absurd hy (by simp)
  | _, _, .cons a r, y, hy => by
    rcases List.mem_cons.mp hy with z | z
    · rw [z]; exact h _ _ a
    · exact r.all_r h y z
theorem same_run {P : Tab} {f : Nat} {F : FunT} (hF : P f = some F) (hb : F.body.er = bSame f) (hps : F.ps.length = 2) (hN : F.N.length = 5) : ∀ (k : Nat) (x y : D) (g : G) (n : Nat), Sm g k x y → (runF P (n + k + 1) f [x, y] g).w fun r g' => r = .bl true ∧ Gr g g' := by
  intro k
  induction k with
  | zero =>
    intro x y g n h
    rw [run_er hF hb (by rw [hps]; rfl), hN]
    cases h with
    | @int _ i =>
      have a1 : dIsi (.int i) (.tup [.ty B.list.id, .ty B.tuple.id]) g = some false := rfl
      have a2 : dIsi (.int i) (.tup [.ty B.list.id, .ty B.tuple.id, .ty B.dict.id]) g = some false := rfl
      have a3 : dIsi (.int i) (.ty B.dict.id) g = some false := rfl
      have a4 : dIsi (.int i) (.ty B.bool.id) g = some false := rfl
      simp -implicitDefEqProofs [R.w, fin_w, startD, bSame, sizeLine_eq, a1, a2, a3, a4, Gr.refl]
    | @str _ i hi =>
      have a1 : dIsi (.str i) (.tup [.ty B.list.id, .ty B.tuple.id]) g = some false := rfl
      have a2 : dIsi (.str i) (.tup [.ty B.list.id, .ty B.tuple.id, .ty B.dict.id]) g = some false := rfl
      have a3 : dIsi (.str i) (.ty B.dict.id) g = some false := rfl
      have a4 : dIsi (.str i) (.ty B.bool.id) g = some false := rfl
      simp -implicitDefEqProofs [R.w, fin_w, startD, bSame, sizeLine_eq, a1, a2, a3, a4, eqS hi hi, Gr.refl]
    | @bl _ i =>
      have a1 : dIsi (.bl i) (.tup [.ty B.list.id, .ty B.tuple.id]) g = some false := rfl
      have a2 : dIsi (.bl i) (.tup [.ty B.list.id, .ty B.tuple.id, .ty B.dict.id]) g = some false := rfl
      have a3 : dIsi (.bl i) (.ty B.dict.id) g = some false := rfl
      have a4 : dIsi (.bl i) (.ty B.bool.id) g = some true := rfl
      simp -implicitDefEqProofs [R.w, fin_w, startD, bSame, sizeLine_eq, a1, a2, a3, a4, Gr.refl]
    | non =>
      have a1 : dIsi .non (.tup [.ty B.list.id, .ty B.tuple.id]) g = some false := rfl
      have a2 : dIsi .non (.tup [.ty B.list.id, .ty B.tuple.id, .ty B.dict.id]) g = some false := rfl
      have a3 : dIsi .non (.ty B.dict.id) g = some false := rfl
      have a4 : dIsi .non (.ty B.bool.id) g = some false := rfl
      simp -implicitDefEqProofs [R.w, fin_w, startD, bSame, sizeLine_eq, a1, a2, a3, a4, Gr.refl]
  | succ k ih =>
    intro x y g n h
    rw [run_er hF hb (by rw [hps]; rfl), hN]
    cases h with
    | @int _ i =>
      have a1 : dIsi (.int i) (.tup [.ty B.list.id, .ty B.tuple.id]) g = some false := rfl
      have a2 : dIsi (.int i) (.tup [.ty B.list.id, .ty B.tuple.id, .ty B.dict.id]) g = some false := rfl
      have a3 : dIsi (.int i) (.ty B.dict.id) g = some false := rfl
      have a4 : dIsi (.int i) (.ty B.bool.id) g = some false := rfl
      simp -implicitDefEqProofs [R.w, fin_w, startD, bSame, sizeLine_eq, a1, a2, a3, a4, Gr.refl]
    | @str _ i hi =>
      have a1 : dIsi (.str i) (.tup [.ty B.list.id, .ty B.tuple.id]) g = some false := rfl
      have a2 : dIsi (.str i) (.tup [.ty B.list.id, .ty B.tuple.id, .ty B.dict.id]) g = some false := rfl
      have a3 : dIsi (.str i) (.ty B.dict.id) g = some false := rfl
      have a4 : dIsi (.str i) (.ty B.bool.id) g = some false := rfl
      simp -implicitDefEqProofs [R.w, fin_w, startD, bSame, sizeLine_eq, a1, a2, a3, a4, eqS hi hi, Gr.refl]
    | @bl _ i =>
      have a1 : dIsi (.bl i) (.tup [.ty B.list.id, .ty B.tuple.id]) g = some false := rfl
      have a2 : dIsi (.bl i) (.tup [.ty B.list.id, .ty B.tuple.id, .ty B.dict.id]) g = some false := rfl
      have a3 : dIsi (.bl i) (.ty B.dict.id) g = some false := rfl
      have a4 : dIsi (.bl i) (.ty B.bool.id) g = some true := rfl
      simp -implicitDefEqProofs [R.w, fin_w, startD, bSame, sizeLine_eq, a1, a2, a3, a4, Gr.refl]
    | non =>
      have a1 : dIsi .non (.tup [.ty B.list.id, .ty B.tuple.id]) g = some false := rfl
      have a2 : dIsi .non (.tup [.ty B.list.id, .ty B.tuple.id, .ty B.dict.id]) g = some false := rfl
      have a3 : dIsi .non (.ty B.dict.id) g = some false := rfl
      have a4 : dIsi .non (.ty B.bool.id) g = some false := rfl
      simp -implicitDefEqProofs [R.w, fin_w, startD, bSame, sizeLine_eq, a1, a2, a3, a4, Gr.refl]
    | @tup _ ds es hl hb' hh =>
      have a1 : dIsi (.tup es) (.tup [.ty B.list.id, .ty B.tuple.id]) g = some true := rfl
      have a2 : dIsi (.tup ds) (.ty B.list.id) g = some false := rfl
      have a3 : dIsi (.tup es) (.ty B.list.id) g = some false := rfl
      have a4 : dIsi (.tup ds) (.ty B.tuple.id) g = some true := rfl
      have a5 : dIsi (.tup es) (.ty B.tuple.id) g = some true := rfl
      simp -implicitDefEqProofs [R.w, fin_w, startD, bSame, sizeLine_eq, a1, a2, a3, a4, a5, lens (show seqD (.tup ds) g = some ds from rfl), lens (show seqD (.tup es) g = some es from rfl), hl]
      refine lc_rel (ds.zip es) (fun p => .tup [p.1, p.2]) (fun _ y _ => y = .bl true) (fun _ _ _ _ h _ => h) (by rw [List.length_zip]; omega) (evI_zip (q := (ds, es)) rfl rfl rfl) (fun i gi gr => by rw [← zipAt_eq]; rfl) (fun p gi hp gr => ?_) fun out g' gr ho h2 => ?_
      · obtain ⟨i, hi, e⟩ := List.mem_iff_getElem.mp hp
        rw [List.length_zip] at hi
        rw [List.getElem_zip] at e
        refine ⟨[some (.tup ds), some (.tup es), some p.1, some p.2, none], rfl, ?_⟩
        have := ih p.1 p.2 gi n ((hh i p.1 p.2 (by rw [← e]; exact List.getElem?_eq_getElem (by omega)) (by rw [← e]; exact List.getElem?_eq_getElem (by omega))).gr gr)
        simp -implicitDefEqProofs [R.w]
        exact this
      · rw [all_w ho (A2.all_r (V := fun y => y = D.bl true) (fun _ _ z => z) h2)]
        exact ⟨rfl, gr⟩
    | @lst _ a b ds es ha hb0 hl hb' hh =>
      have t1 : tyN (.ref a) g = some "list" := by
        show (match g[a]? with
          | some (.lst _) => some "list"
          | some (.dic _) => some "dict"
          | some (.fdic _) => some "dict"
          | none => none) = _
        rw [ha]
      have t2 : tyN (.ref b) g = some "list" := by
        show (match g[b]? with
          | some (.lst _) => some "list"
          | some (.dic _) => some "dict"
          | some (.fdic _) => some "dict"
          | none => none) = _
        rw [hb0]
      have a1 : dIsi (.ref b) (.tup [.ty B.list.id, .ty B.tuple.id]) g = some true := by unfold dIsi; rw [t2]; rfl
      have a2 : dIsi (.ref a) (.ty B.list.id) g = some true := by unfold dIsi; rw [t1]; rfl
      have a3 : dIsi (.ref b) (.ty B.list.id) g = some true := by unfold dIsi; rw [t2]; rfl
      have a4 : dIsi (.ref a) (.ty B.tuple.id) g = some false := by unfold dIsi; rw [t1]; rfl
      have a5 : dIsi (.ref b) (.ty B.tuple.id) g = some false := by unfold dIsi; rw [t2]; rfl
      have l1 : ∀ {gi : G}, gi[a]? = some (.lst ds) → lstD (.ref a) gi = some ds := fun {gi} h => by
        show (match gi[a]? with
          | some (.lst ds) => some ds
          | _ => none) = _
        rw [h]
      have l2 : ∀ {gi : G}, gi[b]? = some (.lst es) → lstD (.ref b) gi = some es := fun {gi} h => by
        show (match gi[b]? with
          | some (.lst ds) => some ds
          | _ => none) = _
        rw [h]
      have zz : ∀ {gi : G}, Gr g gi → zipD (.ref a) (.ref b) gi = some (ds, es) := fun {gi} gr => by
        show (match lstD (.ref a) gi, lstD (.ref b) gi with
          | some xs, some ys => some (xs, ys)
          | _, _ => none) = _
        rw [l1 (gr.at ha), l2 (gr.at hb0)]
      simp -implicitDefEqProofs [R.w, fin_w, startD, bSame, sizeLine_eq, a1, a2, a3, a4, a5, lens (seq_ref ha), lens (seq_ref hb0), hl]
      refine lc_rel (ds.zip es) (fun p => .tup [p.1, p.2]) (fun _ y _ => y = .bl true) (fun _ _ _ _ h _ => h) (by rw [List.length_zip]; omega) (evI_zip (q := (ds, es)) rfl rfl (zz (Gr.refl g))) (fun i gi gr => ?_) (fun p gi hp gr => ?_) fun out g' gr ho h2 => ?_
      · show (zipD (.ref a) (.ref b) gi).map (zipAt i) = _
        rw [← zipAt_eq, zz gr]; rfl
      · obtain ⟨i, hi, e⟩ := List.mem_iff_getElem.mp hp
        rw [List.length_zip] at hi
        rw [List.getElem_zip] at e
        refine ⟨[some (.ref a), some (.ref b), some p.1, some p.2, none], rfl, ?_⟩
        have := ih p.1 p.2 gi n ((hh i p.1 p.2 (by rw [← e]; exact List.getElem?_eq_getElem (by omega)) (by rw [← e]; exact List.getElem?_eq_getElem (by omega))).gr gr)
        simp -implicitDefEqProofs [R.w]
        exact this
      · rw [all_w ho (A2.all_r (V := fun y => y = D.bl true) (fun _ _ z => z) h2)]
        exact ⟨rfl, gr⟩
end PD
set_option Elab.async false
set_option linter.all false
set_option maxRecDepth 100000
set_option maxHeartbeats 0
/-! the tables of the law. -/
namespace K74
open PySem PySem.Spec PyProof.Rows L2 PD
abbrev L : PySem.W.OpenLaw := PySem.Challenge.rw_everypath_k74_whole_plain_forms
abbrev R : PySem.W.OpenRow := PySem.W.OpenLaw.row L
def top (i : Nat) : Stmt := R.prog.main.body.getD i (.Pass p0)
def mKeys : List (Str × Str × Str) := [("BadExpression", "expression", "expression"), ("BadCondition", "condition", "condition")]
def fq (x : Str) (ps : List Str) : Str × List Str := (x, ps)
def cq (x f : Str) : Str × Str := (x, f)
def trc : TrC where
  N := []
  fns := [fq "is_integer" ["thing"], fq "is_list" ["thing"], fq "is_node" ["thing", "word", "many"], fq "kept_expression" ["thing"], fq "kept_condition" ["thing"], fq "is_over_texts" ["thing"], fq "kept_over_texts" ["thing"], fq "gathered" ["tree", "times", "found"], fq "formed" ["tree"], fq "inner_plain" ["tree"], fq "plain_of" ["tree"], fq "plain" ["expression"], fq "is_condition_over_texts" ["thing"], fq "one_more" ["tree"], fq "lots_of" ["word", "one", "other"], fq "turned_about" ["tree"], fq "all_alternatives" ["tree"], fq "alternatives" ["condition"], fq "_law_stream" ["_law_script"], fq "_law_draw" ["_law_stream_here", "_law_many"], fq "_law_pick" ["_law_stream_here", "_law_things"], fq "_law_same" ["_law_found", "_law_due"], fq "_law_loose" ["_law_stream_here", "_law_thing"], fq "_law_expression" ["_law_stream_here", "_law_names", "_law_deep"], fq "_law_condition" ["_law_stream_here", "_law_names", "_law_deep"], fq "_law_worth" ["_law_tree", "_law_values"], fq "_law_holds" ["_law_tree", "_law_values"], fq "_law_gathered" ["_law_tree", "_law_times", "_law_found"], fq "_law_plain" ["_law_tree"], fq "_law_facts" ["_law_tree", "_law_is_so"], fq "_law_tree_right" ["_law_stream_here", "_law_tree", "_law_names"], fq "_law_condition_right" ["_law_stream_here", "_law_tree", "_law_names"], fq "_law_refused_right" [], fq "law" ["_law_script"]]
  cls := [cq "BadExpression" "expression", cq "BadCondition" "condition"]
  met := some ("_law_met", mKeys)
def f0 : FunT := mkF trc (top 5) "is_integer" ["thing"] ["thing"] [] none
def f1 : FunT := mkF trc (top 6) "is_list" ["thing"] ["thing"] [] none
def f2 : FunT := mkF trc (top 8) "is_node" ["thing", "word", "many"] ["thing", "word", "many"] [] none
def f3 : FunT := mkF trc (top 9) "kept_expression" ["thing"] ["thing", "one"] [] none
def f4 : FunT := mkF trc (top 10) "kept_condition" ["thing"] ["thing"] [] none
def f5 : FunT := mkF trc (top 12) "is_over_texts" ["thing"] ["thing"] [] none
def f6 : FunT := mkF trc (top 13) "kept_over_texts" ["thing"] ["thing"] [] none
def f7 : FunT := mkF trc (top 14) "gathered" ["tree", "times", "found"] ["tree", "times", "found", "word", "constant"] [] none
def f8 : FunT := mkF trc (top 15) "formed" ["tree"] ["tree", "found", "terms", "constant", "piece", "times", "term"] [] none
def f9 : FunT := mkF trc (top 17) "inner_plain" ["tree"] ["tree", "word", "inner"] [] none
def f10 : FunT := mkF trc (top 18) "plain_of" ["tree"] ["tree", "constant", "terms", "found", "factor", "piece", "part"] [] none
def f11 : FunT := mkF trc (top 19) "plain" ["expression"] ["expression"] [(["expression"], [0])] none
def f12 : FunT := mkF trc (top 20) "is_condition_over_texts" ["thing"] ["thing", "word"] [] none
def f13 : FunT := mkF trc (top 21) "one_more" ["tree"] ["tree"] [] none
def f14 : FunT := mkF trc (top 22) "lots_of" ["word", "one", "other"] ["word", "one", "other"] [] none
def f15 : FunT := mkF trc (top 23) "turned_about" ["tree"] ["tree", "word"] [] none
def f16 : FunT := mkF trc (top 24) "all_alternatives" ["tree"] ["tree", "word", "one", "other", "mine", "theirs"] [] none
def f17 : FunT := mkF trc (top 25) "alternatives" ["condition"] ["condition"] [(["condition"], [0])] none
def f18 : FunT := mkF trc (top 27) "_law_stream" ["_law_script"] ["_law_script"] [] none
def f19 : FunT := mkF trc (top 28) "_law_draw" ["_law_stream_here", "_law_many"] ["_law_stream_here", "_law_many", "_law_cell", "_law_digit", "_law_mixed"] [] none
def f20 : FunT := mkF trc (top 29) "_law_pick" ["_law_stream_here", "_law_things"] ["_law_stream_here", "_law_things"] [] none
def f21 : FunT := mkF trc (top 30) "_law_same" ["_law_found", "_law_due"] ["_law_found", "_law_due", "_law_mine", "_law_theirs", "_law_key"] [] none
def f22 : FunT := mkF trc (top 31) "_law_loose" ["_law_stream_here", "_law_thing"] ["_law_stream_here", "_law_thing", "_law_some", "_law_one"] [] none
def f23 : FunT := mkF trc (top 32) "_law_expression" ["_law_stream_here", "_law_names", "_law_deep"] ["_law_stream_here", "_law_names", "_law_deep", "_law_way", "_law_one"] [] none
def f24 : FunT := mkF trc (top 33) "_law_condition" ["_law_stream_here", "_law_names", "_law_deep"] ["_law_stream_here", "_law_names", "_law_deep", "_law_way", "_law_one", "_law_other", "_law_word"] [] none
def f25 : FunT := mkF trc (top 34) "_law_worth" ["_law_tree", "_law_values"] ["_law_tree", "_law_values", "_law_one"] [] none
def f26 : FunT := mkF trc (top 35) "_law_holds" ["_law_tree", "_law_values"] ["_law_tree", "_law_values", "_law_less"] [] none
def f27 : FunT := mkF trc (top 36) "_law_gathered" ["_law_tree", "_law_times", "_law_found"] ["_law_tree", "_law_times", "_law_found", "_law_word", "_law_piece", "_law_inner", "_law_many", "_law_one"] [] none
def f28 : FunT := mkF trc (top 37) "_law_plain" ["_law_tree"] ["_law_tree", "_law_found", "_law_constant", "_law_parts", "_law_piece", "_law_factor", "_law_told", "_law_part"] [] none
def f29 : FunT := mkF trc (top 38) "_law_facts" ["_law_tree", "_law_is_so"] ["_law_tree", "_law_is_so", "_law_word", "_law_one", "_law_other", "_law_found", "_law_mine", "_law_theirs", "_law_more", "_law_part"] [] none
def f30 : FunT := mkF trc (top 40) "_law_tree_right" ["_law_stream_here", "_law_tree", "_law_names"] ["_law_stream_here", "_law_tree", "_law_names", "_law_due", "_law_k", "_law_values", "_law_x"] [] none
def f31 : FunT := mkF trc (top 41) "_law_condition_right" ["_law_stream_here", "_law_tree", "_law_names"] ["_law_stream_here", "_law_tree", "_law_names", "_law_due", "_law_told", "_law_k", "_law_values", "_law_x", "_law_held", "_law_e", "_law_f", "_law_some"] [] none
def f32 : FunT := mkF trc (top 42) "_law_refused_right" [] ["_law_odds", "_law_odd", "_law_right", "_law_held", "_law_found"] [] (some ("_law_met", mKeys))
def f33 : FunT := mkF trc (top 43) "law" ["_law_script"] ["_law_script", "_law_stream_here", "_law_turn", "_law_names", "_law_one", "_law_found", "_law_due"] [] none
def fs : List FunT := [f0, f1, f2, f3, f4, f5, f6, f7, f8, f9, f10, f11, f12, f13, f14, f15, f16, f17, f18, f19, f20, f21, f22, f23, f24, f25, f26, f27, f28, f29, f30, f31, f32, f33]
def c0 : CT := (ctOf "BadExpression" (top 2)).getD ⟨"", "", "", noArgs, s0, p0, p0, p0, p0⟩
def c1 : CT := (ctOf "BadCondition" (top 3)).getD ⟨"", "", "", noArgs, s0, p0, p0, p0, p0⟩
def cs : List CT := [c0, c1]
def mt : MT := (mtOf (top 39)).getD ⟨"", "", ⟨"", "", "", p0, p0, p0, p0, p0, p0, p0, 0, 0⟩, [], p0, p0, p0, p0, p0, p0, 0, 0⟩
def met : Option MetT := some ⟨"_law_met", mt, defArgs (top 39), defScope (top 39), "_law_refused_right"⟩
def P : PrD := ⟨fs, cs, met⟩
theorem bn0 : BndT f0.x f0.x f0.args f0.body.pys f0.scope f0.ps f0.kss := by
  refine ⟨fun _ _ _ _ _ _ us hl => match us, hl with | [_], _ => rfl, ?_⟩
  exact fun ks idx h => nomatch h
theorem bn1 : BndT f1.x f1.x f1.args f1.body.pys f1.scope f1.ps f1.kss := by
  refine ⟨fun _ _ _ _ _ _ us hl => match us, hl with | [_], _ => rfl, ?_⟩
  exact fun ks idx h => nomatch h
theorem bn2 : BndT f2.x f2.x f2.args f2.body.pys f2.scope f2.ps f2.kss := by
  refine ⟨fun _ _ _ _ _ _ us hl => match us, hl with | [_, _, _], _ => rfl, ?_⟩
  exact fun ks idx h => nomatch h
theorem bn3 : BndT f3.x f3.x f3.args f3.body.pys f3.scope f3.ps f3.kss := by
  refine ⟨fun _ _ _ _ _ _ us hl => match us, hl with | [_], _ => rfl, ?_⟩
  exact fun ks idx h => nomatch h
theorem bn4 : BndT f4.x f4.x f4.args f4.body.pys f4.scope f4.ps f4.kss := by
  refine ⟨fun _ _ _ _ _ _ us hl => match us, hl with | [_], _ => rfl, ?_⟩
  exact fun ks idx h => nomatch h
theorem bn5 : BndT f5.x f5.x f5.args f5.body.pys f5.scope f5.ps f5.kss := by
  refine ⟨fun _ _ _ _ _ _ us hl => match us, hl with | [_], _ => rfl, ?_⟩
  exact fun ks idx h => nomatch h
theorem bn6 : BndT f6.x f6.x f6.args f6.body.pys f6.scope f6.ps f6.kss := by
  refine ⟨fun _ _ _ _ _ _ us hl => match us, hl with | [_], _ => rfl, ?_⟩
  exact fun ks idx h => nomatch h
theorem bn7 : BndT f7.x f7.x f7.args f7.body.pys f7.scope f7.ps f7.kss := by
  refine ⟨fun _ _ _ _ _ _ us hl => match us, hl with | [_, _, _], _ => rfl, ?_⟩
  exact fun ks idx h => nomatch h
theorem bn8 : BndT f8.x f8.x f8.args f8.body.pys f8.scope f8.ps f8.kss := by
  refine ⟨fun _ _ _ _ _ _ us hl => match us, hl with | [_], _ => rfl, ?_⟩
  exact fun ks idx h => nomatch h
theorem bn9 : BndT f9.x f9.x f9.args f9.body.pys f9.scope f9.ps f9.kss := by
  refine ⟨fun _ _ _ _ _ _ us hl => match us, hl with | [_], _ => rfl, ?_⟩
  exact fun ks idx h => nomatch h
theorem bn10 : BndT f10.x f10.x f10.args f10.body.pys f10.scope f10.ps f10.kss := by
  refine ⟨fun _ _ _ _ _ _ us hl => match us, hl with | [_], _ => rfl, ?_⟩
  exact fun ks idx h => nomatch h
theorem bn11 : BndT f11.x f11.x f11.args f11.body.pys f11.scope f11.ps f11.kss := by
  refine ⟨fun _ _ _ _ _ _ us hl => match us, hl with | [_], _ => rfl, ?_⟩
  intro ks idx h
  rcases List.mem_cons.mp h with h | h
  · cases h; exact ⟨rfl, fun _ _ _ _ _ _ ws hl => match ws, hl with | [_], _ => rfl⟩
  exact nomatch h
theorem bn12 : BndT f12.x f12.x f12.args f12.body.pys f12.scope f12.ps f12.kss := by
  refine ⟨fun _ _ _ _ _ _ us hl => match us, hl with | [_], _ => rfl, ?_⟩
  exact fun ks idx h => nomatch h
theorem bn13 : BndT f13.x f13.x f13.args f13.body.pys f13.scope f13.ps f13.kss := by
  refine ⟨fun _ _ _ _ _ _ us hl => match us, hl with | [_], _ => rfl, ?_⟩
  exact fun ks idx h => nomatch h
theorem bn14 : BndT f14.x f14.x f14.args f14.body.pys f14.scope f14.ps f14.kss := by
  refine ⟨fun _ _ _ _ _ _ us hl => match us, hl with | [_, _, _], _ => rfl, ?_⟩
  exact fun ks idx h => nomatch h
theorem bn15 : BndT f15.x f15.x f15.args f15.body.pys f15.scope f15.ps f15.kss := by
  refine ⟨fun _ _ _ _ _ _ us hl => match us, hl with | [_], _ => rfl, ?_⟩
  exact fun ks idx h => nomatch h
theorem bn16 : BndT f16.x f16.x f16.args f16.body.pys f16.scope f16.ps f16.kss := by
  refine ⟨fun _ _ _ _ _ _ us hl => match us, hl with | [_], _ => rfl, ?_⟩
  exact fun ks idx h => nomatch h
theorem bn17 : BndT f17.x f17.x f17.args f17.body.pys f17.scope f17.ps f17.kss := by
  refine ⟨fun _ _ _ _ _ _ us hl => match us, hl with | [_], _ => rfl, ?_⟩
  intro ks idx h
  rcases List.mem_cons.mp h with h | h
  · cases h; exact ⟨rfl, fun _ _ _ _ _ _ ws hl => match ws, hl with | [_], _ => rfl⟩
  exact nomatch h
theorem bn18 : BndT f18.x f18.x f18.args f18.body.pys f18.scope f18.ps f18.kss := by
  refine ⟨fun _ _ _ _ _ _ us hl => match us, hl with | [_], _ => rfl, ?_⟩
  exact fun ks idx h => nomatch h
theorem bn19 : BndT f19.x f19.x f19.args f19.body.pys f19.scope f19.ps f19.kss := by
  refine ⟨fun _ _ _ _ _ _ us hl => match us, hl with | [_, _], _ => rfl, ?_⟩
  exact fun ks idx h => nomatch h
theorem bn20 : BndT f20.x f20.x f20.args f20.body.pys f20.scope f20.ps f20.kss := by
  refine ⟨fun _ _ _ _ _ _ us hl => match us, hl with | [_, _], _ => rfl, ?_⟩
  exact fun ks idx h => nomatch h
theorem bn21 : BndT f21.x f21.x f21.args f21.body.pys f21.scope f21.ps f21.kss := by
  refine ⟨fun _ _ _ _ _ _ us hl => match us, hl with | [_, _], _ => rfl, ?_⟩
  exact fun ks idx h => nomatch h
theorem bn22 : BndT f22.x f22.x f22.args f22.body.pys f22.scope f22.ps f22.kss := by
  refine ⟨fun _ _ _ _ _ _ us hl => match us, hl with | [_, _], _ => rfl, ?_⟩
  exact fun ks idx h => nomatch h
theorem bn23 : BndT f23.x f23.x f23.args f23.body.pys f23.scope f23.ps f23.kss := by
  refine ⟨fun _ _ _ _ _ _ us hl => match us, hl with | [_, _, _], _ => rfl, ?_⟩
  exact fun ks idx h => nomatch h
theorem bn24 : BndT f24.x f24.x f24.args f24.body.pys f24.scope f24.ps f24.kss := by
  refine ⟨fun _ _ _ _ _ _ us hl => match us, hl with | [_, _, _], _ => rfl, ?_⟩
  exact fun ks idx h => nomatch h
theorem bn25 : BndT f25.x f25.x f25.args f25.body.pys f25.scope f25.ps f25.kss := by
  refine ⟨fun _ _ _ _ _ _ us hl => match us, hl with | [_, _], _ => rfl, ?_⟩
  exact fun ks idx h => nomatch h
theorem bn26 : BndT f26.x f26.x f26.args f26.body.pys f26.scope f26.ps f26.kss := by
  refine ⟨fun _ _ _ _ _ _ us hl => match us, hl with | [_, _], _ => rfl, ?_⟩
  exact fun ks idx h => nomatch h
theorem bn27 : BndT f27.x f27.x f27.args f27.body.pys f27.scope f27.ps f27.kss := by
  refine ⟨fun _ _ _ _ _ _ us hl => match us, hl with | [_, _, _], _ => rfl, ?_⟩
  exact fun ks idx h => nomatch h
theorem bn28 : BndT f28.x f28.x f28.args f28.body.pys f28.scope f28.ps f28.kss := by
  refine ⟨fun _ _ _ _ _ _ us hl => match us, hl with | [_], _ => rfl, ?_⟩
  exact fun ks idx h => nomatch h
theorem bn29 : BndT f29.x f29.x f29.args f29.body.pys f29.scope f29.ps f29.kss := by
  refine ⟨fun _ _ _ _ _ _ us hl => match us, hl with | [_, _], _ => rfl, ?_⟩
  exact fun ks idx h => nomatch h
theorem bn30 : BndT f30.x f30.x f30.args f30.body.pys f30.scope f30.ps f30.kss := by
  refine ⟨fun _ _ _ _ _ _ us hl => match us, hl with | [_, _, _], _ => rfl, ?_⟩
  exact fun ks idx h => nomatch h
theorem bn31 : BndT f31.x f31.x f31.args f31.body.pys f31.scope f31.ps f31.kss := by
  refine ⟨fun _ _ _ _ _ _ us hl => match us, hl with | [_, _, _], _ => rfl, ?_⟩
  exact fun ks idx h => nomatch h
theorem bn32 : BndT f32.x f32.x f32.args f32.body.pys f32.scope f32.ps f32.kss := by
  refine ⟨fun _ _ _ _ _ _ us hl => match us, hl with | [], _ => rfl, ?_⟩
  exact fun ks idx h => nomatch h
theorem bn33 : BndT f33.x f33.x f33.args f33.body.pys f33.scope f33.ps f33.kss := by
  refine ⟨fun _ _ _ _ _ _ us hl => match us, hl with | [_], _ => rfl, ?_⟩
  exact fun ks idx h => nomatch h
theorem bc0 : BndT "__init__" (c0.x ++ ".__init__") c0.args c0.body c0.scope ["self", c0.prm] [] := ⟨fun _ _ _ _ _ _ us hl => match us, hl with | [_, _], _ => rfl, fun ks idx h => nomatch h⟩
theorem bc1 : BndT "__init__" (c1.x ++ ".__init__") c1.args c1.body c1.scope ["self", c1.prm] [] := ⟨fun _ _ _ _ _ _ us hl => match us, hl with | [_, _], _ => rfl, fun ks idx h => nomatch h⟩
theorem bnd : P.Bnd where
  fs := fun F h => by
    rcases List.mem_cons.mp h with h | h
    · subst h; exact bn0
    rcases List.mem_cons.mp h with h | h
    · subst h; exact bn1
    rcases List.mem_cons.mp h with h | h
    · subst h; exact bn2
    rcases List.mem_cons.mp h with h | h
    · subst h; exact bn3
    rcases List.mem_cons.mp h with h | h
    · subst h; exact bn4
    rcases List.mem_cons.mp h with h | h
    · subst h; exact bn5
    rcases List.mem_cons.mp h with h | h
    · subst h; exact bn6
    rcases List.mem_cons.mp h with h | h
    · subst h; exact bn7
    rcases List.mem_cons.mp h with h | h
    · subst h; exact bn8
    rcases List.mem_cons.mp h with h | h
    · subst h; exact bn9
    rcases List.mem_cons.mp h with h | h
    · subst h; exact bn10
    rcases List.mem_cons.mp h with h | h
    · subst h; exact bn11
    rcases List.mem_cons.mp h with h | h
    · subst h; exact bn12
    rcases List.mem_cons.mp h with h | h
    · subst h; exact bn13
    rcases List.mem_cons.mp h with h | h
    · subst h; exact bn14
    rcases List.mem_cons.mp h with h | h
    · subst h; exact bn15
    rcases List.mem_cons.mp h with h | h
    · subst h; exact bn16
    rcases List.mem_cons.mp h with h | h
    · subst h; exact bn17
    rcases List.mem_cons.mp h with h | h
    · subst h; exact bn18
    rcases List.mem_cons.mp h with h | h
    · subst h; exact bn19
    rcases List.mem_cons.mp h with h | h
    · subst h; exact bn20
    rcases List.mem_cons.mp h with h | h
    · subst h; exact bn21
    rcases List.mem_cons.mp h with h | h
    · subst h; exact bn22
    rcases List.mem_cons.mp h with h | h
    · subst h; exact bn23
    rcases List.mem_cons.mp h with h | h
    · subst h; exact bn24
    rcases List.mem_cons.mp h with h | h
    · subst h; exact bn25
    rcases List.mem_cons.mp h with h | h
    · subst h; exact bn26
    rcases List.mem_cons.mp h with h | h
    · subst h; exact bn27
    rcases List.mem_cons.mp h with h | h
    · subst h; exact bn28
    rcases List.mem_cons.mp h with h | h
    · subst h; exact bn29
    rcases List.mem_cons.mp h with h | h
    · subst h; exact bn30
    rcases List.mem_cons.mp h with h | h
    · subst h; exact bn31
    rcases List.mem_cons.mp h with h | h
    · subst h; exact bn32
    rcases List.mem_cons.mp h with h | h
    · subst h; exact bn33
    exact nomatch h
  cs := fun F h => by
    rcases List.mem_cons.mp h with h | h
    · subst h; exact bc0
    rcases List.mem_cons.mp h with h | h
    · subst h; exact bc1
    exact nomatch h
  met := fun F h => by
    rcases List.mem_cons.mp h with h | h
    · subst h; exact ⟨fun _ _ _ _ _ _ us hl => match us, hl with | [_], _ => rfl, fun ks idx h => nomatch h⟩
    exact nomatch h
theorem okP : P.okB = true := by kernel_rfl
end K74
set_option linter.all false
set_option maxRecDepth 100000
set_option maxHeartbeats 0
/-! the bodies, without places. -/
namespace K74
open PySem PySem.Spec PyProof.Rows L2 PD
def b0 : Ss := (.cons
  (.ret (.bop true (.cons (.blt .isinstance p0 (.cons (.var 0 e0 p0) (.cons (.typ .int p0) .nil)) p0) (.cons (.nt (.blt .isinstance p0 (.cons (.var 0 e0 p0) (.cons (.typ .bool p0) .nil)) p0) p0) .nil)) p0) p0)
  .nil)

def b1 : Ss := (.cons
  (.ret (.blt .isinstance p0 (.cons (.var 0 e0 p0) (.cons (.tup (.cons (.typ .list p0) (.cons (.typ .tuple p0) .nil)) 0 p0) .nil)) p0) p0)
  .nil)

def b2 : Ss := (.cons
  (.ret (.bop true (.cons (.call 1 e0 p0 (.cons (.var 0 e0 p0) .nil) p0) (.cons (.cmp .Eq (.blt .len p0 (.cons (.var 0 e0 p0) .nil) p0) (.var 2 e0 p0) p0) (.cons (.blt .isinstance p0 (.cons (.idx (.var 0 e0 p0) (.num 0 0 p0) p0) (.cons (.typ .str p0) .nil)) p0) (.cons (.cmp .Eq (.idx (.var 0 e0 p0) (.num 0 0 p0) p0) (.var 1 e0 p0) p0) .nil)))) p0) p0)
  .nil)

def b3 : Ss := (.cons
  (.ret (.blt .tuple p0 (.cons (.lc (.ife (.call 1 e0 p0 (.cons (.var 1 e0 p0) .nil) p0) (.call 3 e0 p0 (.cons (.var 1 e0 p0) .nil) p0) (.var 1 e0 p0) p0) (.name 1 e0 p0) (.seq (.var 0 e0 p0)) .nil s0 [(e0, 1)] p0) .nil) p0) p0)
  .nil)

def b4 : Ss := (.cons
  (.ret (.call 3 e0 p0 (.cons (.var 0 e0 p0) .nil) p0) p0)
  .nil)

def b5 : Ss := (.cons
  (.ifs (.call 2 e0 p0 (.cons (.var 0 e0 p0) (.cons (.txt "number" 0 p0) (.cons (.num 2 0 p0) .nil))) p0) (.cons
    (.ret (.call 0 e0 p0 (.cons (.idx (.var 0 e0 p0) (.num 1 0 p0) p0) .nil) p0) p0)
    .nil) .nil p0)
  (.cons
  (.ifs (.call 2 e0 p0 (.cons (.var 0 e0 p0) (.cons (.txt "name" 0 p0) (.cons (.num 2 0 p0) .nil))) p0) (.cons
    (.ret (.blt .isinstance p0 (.cons (.idx (.var 0 e0 p0) (.num 1 0 p0) p0) (.cons (.typ .str p0) .nil)) p0) p0)
    .nil) .nil p0)
  (.cons
  (.ifs (.bop false (.cons (.call 2 e0 p0 (.cons (.var 0 e0 p0) (.cons (.txt "add" 0 p0) (.cons (.num 3 0 p0) .nil))) p0) (.cons (.call 2 e0 p0 (.cons (.var 0 e0 p0) (.cons (.txt "sub" 0 p0) (.cons (.num 3 0 p0) .nil))) p0) .nil)) p0) (.cons
    (.ret (.bop true (.cons (.call 5 e0 p0 (.cons (.idx (.var 0 e0 p0) (.num 1 0 p0) p0) .nil) p0) (.cons (.call 5 e0 p0 (.cons (.idx (.var 0 e0 p0) (.num 2 0 p0) p0) .nil) p0) .nil)) p0) p0)
    .nil) .nil p0)
  (.cons
  (.ifs (.call 2 e0 p0 (.cons (.var 0 e0 p0) (.cons (.txt "times" 0 p0) (.cons (.num 3 0 p0) .nil))) p0) (.cons
    (.ret (.bop true (.cons (.call 0 e0 p0 (.cons (.idx (.var 0 e0 p0) (.num 1 0 p0) p0) .nil) p0) (.cons (.call 5 e0 p0 (.cons (.idx (.var 0 e0 p0) (.num 2 0 p0) p0) .nil) p0) .nil)) p0) p0)
    .nil) .nil p0)
  (.cons
  (.ifs (.bop false (.cons (.call 2 e0 p0 (.cons (.var 0 e0 p0) (.cons (.txt "div" 0 p0) (.cons (.num 3 0 p0) .nil))) p0) (.cons (.call 2 e0 p0 (.cons (.var 0 e0 p0) (.cons (.txt "mod" 0 p0) (.cons (.num 3 0 p0) .nil))) p0) .nil)) p0) (.cons
    (.ret (.bop true (.cons (.call 5 e0 p0 (.cons (.idx (.var 0 e0 p0) (.num 1 0 p0) p0) .nil) p0) (.cons (.call 0 e0 p0 (.cons (.idx (.var 0 e0 p0) (.num 2 0 p0) p0) .nil) p0) (.cons (.cmp .GtE (.idx (.var 0 e0 p0) (.num 2 0 p0) p0) (.num 1 0 p0) p0) .nil))) p0) p0)
    .nil) .nil p0)
  (.cons
  (.ret (.boo false 0 p0) p0)
  .nil))))))

def b6 : Ss := (.cons
  (.ifs (.nt (.call 5 e0 p0 (.cons (.var 0 e0 p0) .nil) p0) p0) (.cons
    (.rse "BadExpression" p0 "expression" (.var 0 e0 p0) p0 p0)
    .nil) .nil p0)
  (.cons
  (.ret (.call 3 e0 p0 (.cons (.var 0 e0 p0) .nil) p0) p0)
  .nil))

def b7 : Ss := (.cons
  (.asg 3 e0 p0 (.idx (.var 0 e0 p0) (.num 0 0 p0) p0) p0)
  (.cons
  (.ifs (.cmp .Eq (.var 3 e0 p0) (.txt "number" 0 p0) p0) (.cons
    (.ret (.bin .Mult (.var 1 e0 p0) (.idx (.var 0 e0 p0) (.num 1 0 p0) p0) p0) p0)
    .nil) .nil p0)
  (.cons
  (.ifs (.cmp .Eq (.var 3 e0 p0) (.txt "times" 0 p0) p0) (.cons
    (.ret (.call 7 e0 p0 (.cons (.idx (.var 0 e0 p0) (.num 2 0 p0) p0) (.cons (.bin .Mult (.var 1 e0 p0) (.idx (.var 0 e0 p0) (.num 1 0 p0) p0) p0) (.cons (.var 2 e0 p0) .nil))) p0) p0)
    .nil) .nil p0)
  (.cons
  (.ifs (.cmp .In (.var 3 e0 p0) (.tup (.cons (.txt "add" 0 p0) (.cons (.txt "sub" 0 p0) .nil)) 0 p0) p0) (.cons
    (.asg 4 e0 p0 (.call 7 e0 p0 (.cons (.idx (.var 0 e0 p0) (.num 1 0 p0) p0) (.cons (.var 1 e0 p0) (.cons (.var 2 e0 p0) .nil))) p0) p0)
    (.cons
    (.ret (.bin .Add (.var 4 e0 p0) (.call 7 e0 p0 (.cons (.idx (.var 0 e0 p0) (.num 2 0 p0) p0) (.cons (.ife (.cmp .Eq (.var 3 e0 p0) (.txt "add" 0 p0) p0) (.var 1 e0 p0) (.neg (.var 1 e0 p0) p0) p0) (.cons (.var 2 e0 p0) .nil))) p0) p0) p0)
    .nil)) .nil p0)
  (.cons
  (.exp (.mth .append (.var 2 e0 p0) p0 (.cons (.tup (.cons (.var 0 e0 p0) (.cons (.var 1 e0 p0) .nil)) 0 p0) .nil) p0) p0)
  (.cons
  (.ret (.num 0 0 p0) p0)
  .nil))))))

def b8 : Ss := (.cons
  (.par2 1 2 e0 e0 p0 p0 p0 0 (.lst .nil p0) (.lst .nil p0) 0 p0 p0)
  (.cons
  (.asg 3 e0 p0 (.call 7 e0 p0 (.cons (.var 0 e0 p0) (.cons (.num 1 0 p0) (.cons (.var 1 e0 p0) .nil))) p0) p0)
  (.cons
  (.forr (.tup [(.name 4 e0 p0), (.name 5 e0 p0)] 0 p0) (.seq (.blt .sorted p0 (.cons (.var 1 e0 p0) .nil) p0)) (.cons
    (.ifs (.bop true (.cons (.cmp .NotEq (.var 2 e0 p0) (.lst .nil p0) p0) (.cons (.cmp .Eq (.idx (.idx (.var 2 e0 p0) (.neg (.num 1 0 p0) p0) p0) (.num 1 0 p0) p0) (.var 4 e0 p0) p0) .nil)) p0) (.cons
      (.put (.var 2 e0 p0) (.neg (.num 1 0 p0) p0) (.tup (.cons (.bin .Add (.idx (.idx (.var 2 e0 p0) (.neg (.num 1 0 p0) p0) p0) (.num 0 0 p0) p0) (.var 5 e0 p0) p0) (.cons (.var 4 e0 p0) .nil)) 0 p0) p0 p0)
      .nil) (.cons
      (.exp (.mth .append (.var 2 e0 p0) p0 (.cons (.tup (.cons (.var 5 e0 p0) (.cons (.var 4 e0 p0) .nil)) 0 p0) .nil) p0) p0)
      .nil) p0)
    .nil) p0)
  (.cons
  (.ret (.tup (.cons (.var 3 e0 p0) (.cons (.lc (.var 6 e0 p0) (.name 6 e0 p0) (.seq (.var 2 e0 p0)) (.cons (.cmp .NotEq (.idx (.var 6 e0 p0) (.num 0 0 p0) p0) (.num 0 0 p0) p0) .nil) s0 [(e0, 6)] p0) .nil)) 0 p0) p0)
  .nil))))

def b9 : Ss := (.cons
  (.asg 1 e0 p0 (.idx (.var 0 e0 p0) (.num 0 0 p0) p0) p0)
  (.cons
  (.ifs (.cmp .In (.var 1 e0 p0) (.tup (.cons (.txt "number" 0 p0) (.cons (.txt "name" 0 p0) .nil)) 0 p0) p0) (.cons
    (.ret (.var 0 e0 p0) p0)
    .nil) .nil p0)
  (.cons
  (.ifs (.cmp .Eq (.var 1 e0 p0) (.txt "times" 0 p0) p0) (.cons
    (.ret (.tup (.cons (.txt "times" 0 p0) (.cons (.idx (.var 0 e0 p0) (.num 1 0 p0) p0) (.cons (.call 9 e0 p0 (.cons (.idx (.var 0 e0 p0) (.num 2 0 p0) p0) .nil) p0) .nil))) 0 p0) p0)
    .nil) .nil p0)
  (.cons
  (.ifs (.cmp .In (.var 1 e0 p0) (.tup (.cons (.txt "add" 0 p0) (.cons (.txt "sub" 0 p0) .nil)) 0 p0) p0) (.cons
    (.ret (.tup (.cons (.var 1 e0 p0) (.cons (.call 9 e0 p0 (.cons (.idx (.var 0 e0 p0) (.num 1 0 p0) p0) .nil) p0) (.cons (.call 9 e0 p0 (.cons (.idx (.var 0 e0 p0) (.num 2 0 p0) p0) .nil) p0) .nil))) 0 p0) p0)
    .nil) .nil p0)
  (.cons
  (.asg 2 e0 p0 (.call 10 e0 p0 (.cons (.idx (.var 0 e0 p0) (.num 1 0 p0) p0) .nil) p0) p0)
  (.cons
  (.ifs (.cmp .Eq (.idx (.var 2 e0 p0) (.num 0 0 p0) p0) (.txt "number" 0 p0) p0) (.cons
    (.ret (.tup (.cons (.txt "number" 0 p0) (.cons (.ife (.cmp .Eq (.var 1 e0 p0) (.txt "div" 0 p0) p0) (.bin .FloorDiv (.idx (.var 2 e0 p0) (.num 1 0 p0) p0) (.idx (.var 0 e0 p0) (.num 2 0 p0) p0) p0) (.bin .Mod (.idx (.var 2 e0 p0) (.num 1 0 p0) p0) (.idx (.var 0 e0 p0) (.num 2 0 p0) p0) p0) p0) .nil)) 0 p0) p0)
    .nil) .nil p0)
  (.cons
  (.ret (.tup (.cons (.var 1 e0 p0) (.cons (.var 2 e0 p0) (.cons (.idx (.var 0 e0 p0) (.num 2 0 p0) p0) .nil))) 0 p0) p0)
  .nil)))))))

def b10 : Ss := (.cons
  (.unp (.tup [(.name 1 e0 p0), (.name 2 e0 p0)] 0 p0) (.call 8 e0 p0 (.cons (.call 9 e0 p0 (.cons (.var 0 e0 p0) .nil) p0) .nil) p0) p0)
  (.cons
  (.asg 3 e0 p0 (.ife (.bop false (.cons (.cmp .NotEq (.var 1 e0 p0) (.num 0 0 p0) p0) (.cons (.cmp .Eq (.var 2 e0 p0) (.lst .nil p0) p0) .nil)) p0) (.tup (.cons (.txt "number" 0 p0) (.cons (.var 1 e0 p0) .nil)) 0 p0) (.non 0 p0) p0) p0)
  (.cons
  (.forr (.tup [(.name 4 e0 p0), (.name 5 e0 p0)] 0 p0) (.seq (.var 2 e0 p0)) (.cons
    (.asg 6 e0 p0 (.ife (.cmp .Eq (.var 4 e0 p0) (.num 1 0 p0) p0) (.var 5 e0 p0) (.tup (.cons (.txt "times" 0 p0) (.cons (.var 4 e0 p0) (.cons (.var 5 e0 p0) .nil))) 0 p0) p0) p0)
    (.cons
    (.asg 3 e0 p0 (.ife (.cmp .Is (.var 3 e0 p0) (.non 0 p0) p0) (.var 6 e0 p0) (.tup (.cons (.txt "add" 0 p0) (.cons (.var 3 e0 p0) (.cons (.var 6 e0 p0) .nil))) 0 p0) p0) p0)
    .nil)) p0)
  (.cons
  (.ret (.var 3 e0 p0) p0)
  .nil))))

def b11 : Ss := (.cons
  (.ret (.call 10 e0 p0 (.cons (.call 6 e0 p0 (.cons (.var 0 e0 p0) .nil) p0) .nil) p0) p0)
  .nil)

def b12 : Ss := (.cons
  (.ifs (.blt .any p0 (.cons (.lc (.call 2 e0 p0 (.cons (.var 0 e0 p0) (.cons (.var 1 e0 p0) (.cons (.num 3 0 p0) .nil))) p0) (.name 1 e0 p0) (.seq (.tup (.cons (.txt "lt" 0 p0) (.cons (.txt "le" 0 p0) (.cons (.txt "eq" 0 p0) (.cons (.txt "ne" 0 p0) .nil)))) 0 p0)) .nil s0 [(e0, 1)] p0) .nil) p0) (.cons
    (.ret (.bop true (.cons (.call 5 e0 p0 (.cons (.idx (.var 0 e0 p0) (.num 1 0 p0) p0) .nil) p0) (.cons (.call 5 e0 p0 (.cons (.idx (.var 0 e0 p0) (.num 2 0 p0) p0) .nil) p0) .nil)) p0) p0)
    .nil) .nil p0)
  (.cons
  (.ifs (.bop false (.cons (.call 2 e0 p0 (.cons (.var 0 e0 p0) (.cons (.txt "and" 0 p0) (.cons (.num 3 0 p0) .nil))) p0) (.cons (.call 2 e0 p0 (.cons (.var 0 e0 p0) (.cons (.txt "or" 0 p0) (.cons (.num 3 0 p0) .nil))) p0) .nil)) p0) (.cons
    (.ret (.bop true (.cons (.call 12 e0 p0 (.cons (.idx (.var 0 e0 p0) (.num 1 0 p0) p0) .nil) p0) (.cons (.call 12 e0 p0 (.cons (.idx (.var 0 e0 p0) (.num 2 0 p0) p0) .nil) p0) .nil)) p0) p0)
    .nil) .nil p0)
  (.cons
  (.ret (.bop true (.cons (.call 2 e0 p0 (.cons (.var 0 e0 p0) (.cons (.txt "not" 0 p0) (.cons (.num 2 0 p0) .nil))) p0) (.cons (.call 12 e0 p0 (.cons (.idx (.var 0 e0 p0) (.num 1 0 p0) p0) .nil) p0) .nil)) p0) p0)
  .nil)))

def b13 : Ss := (.cons
  (.ret (.call 10 e0 p0 (.cons (.tup (.cons (.txt "add" 0 p0) (.cons (.var 0 e0 p0) (.cons (.tup (.cons (.txt "number" 0 p0) (.cons (.num 1 0 p0) .nil)) 0 p0) .nil))) 0 p0) .nil) p0) p0)
  .nil)

def b14 : Ss := (.cons
  (.ifs (.cmp .Eq (.var 0 e0 p0) (.txt "le" 0 p0) p0) (.cons
    (.ret (.lst (.cons (.lst (.cons (.tup (.cons (.var 1 e0 p0) (.cons (.var 2 e0 p0) .nil)) 0 p0) .nil) p0) .nil) p0) p0)
    .nil) .nil p0)
  (.cons
  (.ifs (.cmp .Eq (.var 0 e0 p0) (.txt "lt" 0 p0) p0) (.cons
    (.ret (.lst (.cons (.lst (.cons (.tup (.cons (.call 13 e0 p0 (.cons (.var 1 e0 p0) .nil) p0) (.cons (.var 2 e0 p0) .nil)) 0 p0) .nil) p0) .nil) p0) p0)
    .nil) .nil p0)
  (.cons
  (.ifs (.cmp .Eq (.var 0 e0 p0) (.txt "eq" 0 p0) p0) (.cons
    (.ret (.lst (.cons (.lst (.cons (.tup (.cons (.var 1 e0 p0) (.cons (.var 2 e0 p0) .nil)) 0 p0) (.cons (.tup (.cons (.var 2 e0 p0) (.cons (.var 1 e0 p0) .nil)) 0 p0) .nil)) p0) .nil) p0) p0)
    .nil) .nil p0)
  (.cons
  (.ret (.lst (.cons (.lst (.cons (.tup (.cons (.call 13 e0 p0 (.cons (.var 1 e0 p0) .nil) p0) (.cons (.var 2 e0 p0) .nil)) 0 p0) .nil) p0) (.cons (.lst (.cons (.tup (.cons (.call 13 e0 p0 (.cons (.var 2 e0 p0) .nil) p0) (.cons (.var 1 e0 p0) .nil)) 0 p0) .nil) p0) .nil)) p0) p0)
  .nil))))

def b15 : Ss := (.cons
  (.asg 1 e0 p0 (.idx (.var 0 e0 p0) (.num 0 0 p0) p0) p0)
  (.cons
  (.ifs (.cmp .Eq (.var 1 e0 p0) (.txt "not" 0 p0) p0) (.cons
    (.ret (.idx (.var 0 e0 p0) (.num 1 0 p0) p0) p0)
    .nil) .nil p0)
  (.cons
  (.ifs (.cmp .In (.var 1 e0 p0) (.tup (.cons (.txt "and" 0 p0) (.cons (.txt "or" 0 p0) .nil)) 0 p0) p0) (.cons
    (.ret (.tup (.cons (.ife (.cmp .Eq (.var 1 e0 p0) (.txt "and" 0 p0) p0) (.txt "or" 0 p0) (.txt "and" 0 p0) p0) (.cons (.tup (.cons (.txt "not" 0 p0) (.cons (.idx (.var 0 e0 p0) (.num 1 0 p0) p0) .nil)) 0 p0) (.cons (.tup (.cons (.txt "not" 0 p0) (.cons (.idx (.var 0 e0 p0) (.num 2 0 p0) p0) .nil)) 0 p0) .nil))) 0 p0) p0)
    .nil) .nil p0)
  (.cons
  (.ifs (.cmp .In (.var 1 e0 p0) (.tup (.cons (.txt "lt" 0 p0) (.cons (.txt "le" 0 p0) .nil)) 0 p0) p0) (.cons
    (.ret (.tup (.cons (.ife (.cmp .Eq (.var 1 e0 p0) (.txt "lt" 0 p0) p0) (.txt "le" 0 p0) (.txt "lt" 0 p0) p0) (.cons (.idx (.var 0 e0 p0) (.num 2 0 p0) p0) (.cons (.idx (.var 0 e0 p0) (.num 1 0 p0) p0) .nil))) 0 p0) p0)
    .nil) .nil p0)
  (.cons
  (.ret (.tup (.cons (.ife (.cmp .Eq (.var 1 e0 p0) (.txt "eq" 0 p0) p0) (.txt "ne" 0 p0) (.txt "eq" 0 p0) p0) (.cons (.idx (.var 0 e0 p0) (.num 1 0 p0) p0) (.cons (.idx (.var 0 e0 p0) (.num 2 0 p0) p0) .nil))) 0 p0) p0)
  .nil)))))

def b16 : Ss := (.cons
  (.asg 1 e0 p0 (.idx (.var 0 e0 p0) (.num 0 0 p0) p0) p0)
  (.cons
  (.ifs (.cmp .Eq (.var 1 e0 p0) (.txt "not" 0 p0) p0) (.cons
    (.ret (.call 16 e0 p0 (.cons (.call 15 e0 p0 (.cons (.idx (.var 0 e0 p0) (.num 1 0 p0) p0) .nil) p0) .nil) p0) p0)
    .nil) .nil p0)
  (.cons
  (.ifs (.cmp .Eq (.var 1 e0 p0) (.txt "or" 0 p0) p0) (.cons
    (.ret (.bin .Add (.call 16 e0 p0 (.cons (.idx (.var 0 e0 p0) (.num 1 0 p0) p0) .nil) p0) (.call 16 e0 p0 (.cons (.idx (.var 0 e0 p0) (.num 2 0 p0) p0) .nil) p0) p0) p0)
    .nil) .nil p0)
  (.cons
  (.ifs (.cmp .Eq (.var 1 e0 p0) (.txt "and" 0 p0) p0) (.cons
    (.unp (.tup [(.name 2 e0 p0), (.name 3 e0 p0)] 0 p0) (.tup (.cons (.call 16 e0 p0 (.cons (.idx (.var 0 e0 p0) (.num 1 0 p0) p0) .nil) p0) (.cons (.call 16 e0 p0 (.cons (.idx (.var 0 e0 p0) (.num 2 0 p0) p0) .nil) p0) .nil)) 0 p0) p0)
    (.cons
    (.ret (.lc2 (.bin .Add (.var 4 e0 p0) (.var 5 e0 p0) p0) (.name 4 e0 p0) (.seq (.var 2 e0 p0)) .nil (.name 5 e0 p0) (.seq (.var 3 e0 p0)) .nil s0 [(e0, 4), (e0, 5)] [5] p0) p0)
    .nil)) .nil p0)
  (.cons
  (.ret (.call 14 e0 p0 (.cons (.var 1 e0 p0) (.cons (.call 10 e0 p0 (.cons (.idx (.var 0 e0 p0) (.num 1 0 p0) p0) .nil) p0) (.cons (.call 10 e0 p0 (.cons (.idx (.var 0 e0 p0) (.num 2 0 p0) p0) .nil) p0) .nil))) p0) p0)
  .nil)))))

def b17 : Ss := (.cons
  (.ifs (.nt (.call 12 e0 p0 (.cons (.var 0 e0 p0) .nil) p0) p0) (.cons
    (.rse "BadCondition" p0 "condition" (.var 0 e0 p0) p0 p0)
    .nil) .nil p0)
  (.cons
  (.ret (.call 16 e0 p0 (.cons (.call 4 e0 p0 (.cons (.var 0 e0 p0) .nil) p0) .nil) p0) p0)
  .nil))

def b18 : Ss := (.cons
  (.ret (.lst (.cons (.blt .list p0 (.cons (.var 0 e0 p0) .nil) p0) (.cons (.num 0 0 p0) (.cons (.num 0 0 p0) (.cons (.num 17 0 p0) .nil)))) p0) p0)
  .nil)

def b19 : Ss := (.cons
  (.put (.var 0 e0 p0) (.num 2 0 p0) (.bin .Add (.idx (.var 0 e0 p0) (.num 2 0 p0) p0) (.num 1 0 p0) p0) p0 p0)
  (.cons
  (.whl (.bop true (.cons (.cmp .Eq (.idx (.var 0 e0 p0) (.num 1 0 p0) p0) (.num 0 0 p0) p0) (.cons (.cmp .NotEq (.idx (.var 0 e0 p0) (.num 0 0 p0) p0) (.lst .nil p0) p0) .nil)) p0) (.cons
    (.asg 2 e0 p0 (.blt .abs p0 (.cons (.mth .pop (.idx (.var 0 e0 p0) (.num 0 0 p0) p0) p0 (.cons (.num 0 0 p0) .nil) p0) .nil) p0) p0)
    (.cons
    (.put (.var 0 e0 p0) (.num 3 0 p0) (.bin .Mod (.blt .int p0 (.cons (.bin .Add (.bin .Add (.bin .Mult (.idx (.var 0 e0 p0) (.num 3 0 p0) p0) (.num 8191 0 p0) p0) (.var 2 e0 p0) p0) (.num 3 0 p0) p0) .nil) p0) (.num 2147483647 0 p0) p0) p0 p0)
    (.cons
    (.put (.var 0 e0 p0) (.num 1 0 p0) (.ife (.cmp .GtE (.var 2 e0 p0) (.bin .Pow (.num 10 0 p0) (.num 18 0 p0) p0) p0) (.var 2 e0 p0) (.num 0 0 p0) p0) p0 p0)
    .nil))) p0)
  (.cons
  (.ifs (.cmp .Gt (.idx (.var 0 e0 p0) (.num 1 0 p0) p0) (.num 0 0 p0) p0) (.cons
    (.asg 3 e0 p0 (.bin .Mod (.blt .int p0 (.cons (.idx (.var 0 e0 p0) (.num 1 0 p0) p0) .nil) p0) (.var 1 e0 p0) p0) p0)
    (.cons
    (.put (.var 0 e0 p0) (.num 1 0 p0) (.bin .FloorDiv (.idx (.var 0 e0 p0) (.num 1 0 p0) p0) (.var 1 e0 p0) p0) p0 p0)
    (.cons
    (.ret (.var 3 e0 p0) p0)
    .nil))) .nil p0)
  (.cons
  (.asg 4 e0 p0 (.bin .Mod (.blt .int p0 (.cons (.bin .Pow (.bin .Add (.bin .Add (.idx (.var 0 e0 p0) (.num 3 0 p0) p0) (.bin .Mult (.num 7919 0 p0) (.idx (.var 0 e0 p0) (.num 2 0 p0) p0) p0) p0) (.num 104729 0 p0) p0) (.num 5 0 p0) p0) .nil) p0) (.num 2147483629 0 p0) p0) p0)
  (.cons
  (.ret (.bin .Mod (.bin .Mod (.blt .int p0 (.cons (.bin .Pow (.bin .Add (.bin .Add (.bin .Mult (.var 4 e0 p0) (.num 48271 0 p0) p0) (.bin .Mult (.num 30011 0 p0) (.idx (.var 0 e0 p0) (.num 2 0 p0) p0) p0) p0) (.num 29 0 p0) p0) (.num 3 0 p0) p0) .nil) p0) (.num 1000000007 0 p0) p0) (.var 1 e0 p0) p0) p0)
  .nil)))))

def b20 : Ss := (.cons
  (.ret (.idx (.var 1 e0 p0) (.call 19 e0 p0 (.cons (.var 0 e0 p0) (.cons (.blt .len p0 (.cons (.var 1 e0 p0) .nil) p0) .nil)) p0) p0) p0)
  .nil)

def b21 : Ss := (.cons
  (.ifs (.blt .isinstance p0 (.cons (.var 1 e0 p0) (.cons (.tup (.cons (.typ .list p0) (.cons (.typ .tuple p0) .nil)) 0 p0) .nil)) p0) (.cons
    (.ifs (.bop false (.cons (.cmp .NotEq (.blt .isinstance p0 (.cons (.var 0 e0 p0) (.cons (.typ .list p0) .nil)) p0) (.blt .isinstance p0 (.cons (.var 1 e0 p0) (.cons (.typ .list p0) .nil)) p0) p0) (.cons (.cmp .NotEq (.blt .isinstance p0 (.cons (.var 0 e0 p0) (.cons (.typ .tuple p0) .nil)) p0) (.blt .isinstance p0 (.cons (.var 1 e0 p0) (.cons (.typ .tuple p0) .nil)) p0) p0) .nil)) p0) (.cons
      (.ret (.boo false 0 p0) p0)
      .nil) .nil p0)
    (.cons
    (.ret (.bop true (.cons (.cmp .Eq (.blt .len p0 (.cons (.var 0 e0 p0) .nil) p0) (.blt .len p0 (.cons (.var 1 e0 p0) .nil) p0) p0) (.cons (.blt .all p0 (.cons (.lc (.call 21 e0 p0 (.cons (.var 2 e0 p0) (.cons (.var 3 e0 p0) .nil)) p0) (.tup [(.name 2 e0 p0), (.name 3 e0 p0)] 0 p0) (.zip p0 (.var 0 e0 p0) (.var 1 e0 p0) p0) .nil s0 [(e0, 2), (e0, 3)] p0) .nil) p0) .nil)) p0) p0)
    .nil)) .nil p0)
  (.cons
  (.ifs (.blt .isinstance p0 (.cons (.var 1 e0 p0) (.cons (.typ .dict p0) .nil)) p0) (.cons
    (.ifs (.bop false (.cons (.nt (.blt .isinstance p0 (.cons (.var 0 e0 p0) (.cons (.typ .dict p0) .nil)) p0) p0) (.cons (.cmp .NotEq (.blt .len p0 (.cons (.var 0 e0 p0) .nil) p0) (.blt .len p0 (.cons (.var 1 e0 p0) .nil) p0) p0) .nil)) p0) (.cons
      (.ret (.boo false 0 p0) p0)
      .nil) .nil p0)
    (.cons
    (.ret (.blt .all p0 (.cons (.lc (.bop true (.cons (.cmp .In (.var 4 e0 p0) (.var 0 e0 p0) p0) (.cons (.call 21 e0 p0 (.cons (.idx (.var 0 e0 p0) (.var 4 e0 p0) p0) (.cons (.idx (.var 1 e0 p0) (.var 4 e0 p0) p0) .nil)) p0) .nil)) p0) (.name 4 e0 p0) (.seq (.var 1 e0 p0)) .nil s0 [(e0, 4)] p0) .nil) p0) p0)
    .nil)) .nil p0)
  (.cons
  (.ifs (.bop false (.cons (.blt .isinstance p0 (.cons (.var 1 e0 p0) (.cons (.typ .bool p0) .nil)) p0) (.cons (.blt .isinstance p0 (.cons (.var 0 e0 p0) (.cons (.typ .bool p0) .nil)) p0) .nil)) p0) (.cons
    (.ret (.bop true (.cons (.blt .isinstance p0 (.cons (.var 1 e0 p0) (.cons (.typ .bool p0) .nil)) p0) (.cons (.blt .isinstance p0 (.cons (.var 0 e0 p0) (.cons (.typ .bool p0) .nil)) p0) (.cons (.cmp .Eq (.var 0 e0 p0) (.var 1 e0 p0) p0) .nil))) p0) p0)
    .nil) .nil p0)
  (.cons
  (.ret (.bop true (.cons (.nt (.blt .isinstance p0 (.cons (.var 0 e0 p0) (.cons (.tup (.cons (.typ .list p0) (.cons (.typ .tuple p0) (.cons (.typ .dict p0) .nil))) 0 p0) .nil)) p0) p0) (.cons (.cmp .Eq (.var 0 e0 p0) (.var 1 e0 p0) p0) .nil)) p0) p0)
  .nil))))

def b22 : Ss := (.cons
  (.ifs (.blt .isinstance p0 (.cons (.var 1 e0 p0) (.cons (.tup (.cons (.typ .list p0) (.cons (.typ .tuple p0) .nil)) 0 p0) .nil)) p0) (.cons
    (.asg 2 e0 p0 (.lc (.call 22 e0 p0 (.cons (.var 0 e0 p0) (.cons (.var 3 e0 p0) .nil)) p0) (.name 3 e0 p0) (.seq (.var 1 e0 p0)) .nil s0 [(e0, 3)] p0) p0)
    (.cons
    (.ret (.ife (.cmp .Eq (.call 19 e0 p0 (.cons (.var 0 e0 p0) (.cons (.num 2 0 p0) .nil)) p0) (.num 0 0 p0) p0) (.var 2 e0 p0) (.blt .tuple p0 (.cons (.var 2 e0 p0) .nil) p0) p0) p0)
    .nil)) .nil p0)
  (.cons
  (.ret (.var 1 e0 p0) p0)
  .nil))

def b23 : Ss := (.cons
  (.asg 3 e0 p0 (.ife (.cmp .Gt (.var 2 e0 p0) (.num 0 0 p0) p0) (.call 19 e0 p0 (.cons (.var 0 e0 p0) (.cons (.num 9 0 p0) .nil)) p0) (.call 19 e0 p0 (.cons (.var 0 e0 p0) (.cons (.num 4 0 p0) .nil)) p0) p0) p0)
  (.cons
  (.ifs (.bop true (.cons (.cmp .Lt (.var 3 e0 p0) (.num 2 0 p0) p0) (.cons (.cmp .NotEq (.var 1 e0 p0) (.lst .nil p0) p0) .nil)) p0) (.cons
    (.ret (.tup (.cons (.txt "name" 0 p0) (.cons (.call 20 e0 p0 (.cons (.var 0 e0 p0) (.cons (.var 1 e0 p0) .nil)) p0) .nil)) 0 p0) p0)
    .nil) .nil p0)
  (.cons
  (.ifs (.bop false (.cons (.cmp .Lt (.var 3 e0 p0) (.num 4 0 p0) p0) (.cons (.cmp .Eq (.var 1 e0 p0) (.lst .nil p0) p0) .nil)) p0) (.cons
    (.ret (.tup (.cons (.txt "number" 0 p0) (.cons (.bin .Sub (.call 19 e0 p0 (.cons (.var 0 e0 p0) (.cons (.num 9 0 p0) .nil)) p0) (.num 3 0 p0) p0) .nil)) 0 p0) p0)
    .nil) .nil p0)
  (.cons
  (.asg 4 e0 p0 (.call 23 e0 p0 (.cons (.var 0 e0 p0) (.cons (.var 1 e0 p0) (.cons (.bin .Sub (.var 2 e0 p0) (.num 1 0 p0) p0) .nil))) p0) p0)
  (.cons
  (.ifs (.cmp .Lt (.var 3 e0 p0) (.num 7 0 p0) p0) (.cons
    (.ret (.tup (.cons (.call 20 e0 p0 (.cons (.var 0 e0 p0) (.cons (.lst (.cons (.txt "add" 0 p0) (.cons (.txt "add" 0 p0) (.cons (.txt "sub" 0 p0) .nil))) p0) .nil)) p0) (.cons (.var 4 e0 p0) (.cons (.call 23 e0 p0 (.cons (.var 0 e0 p0) (.cons (.var 1 e0 p0) (.cons (.bin .Sub (.var 2 e0 p0) (.num 1 0 p0) p0) .nil))) p0) .nil))) 0 p0) p0)
    .nil) .nil p0)
  (.cons
  (.ifs (.cmp .Eq (.var 3 e0 p0) (.num 7 0 p0) p0) (.cons
    (.ret (.tup (.cons (.txt "times" 0 p0) (.cons (.bin .Sub (.call 19 e0 p0 (.cons (.var 0 e0 p0) (.cons (.num 6 0 p0) .nil)) p0) (.num 2 0 p0) p0) (.cons (.var 4 e0 p0) .nil))) 0 p0) p0)
    .nil) .nil p0)
  (.cons
  (.ret (.tup (.cons (.call 20 e0 p0 (.cons (.var 0 e0 p0) (.cons (.lst (.cons (.txt "div" 0 p0) (.cons (.txt "mod" 0 p0) .nil)) p0) .nil)) p0) (.cons (.var 4 e0 p0) (.cons (.bin .Add (.num 1 0 p0) (.call 19 e0 p0 (.cons (.var 0 e0 p0) (.cons (.num 5 0 p0) .nil)) p0) p0) .nil))) 0 p0) p0)
  .nil)))))))

def b24 : Ss := (.cons
  (.asg 3 e0 p0 (.ife (.cmp .Gt (.var 2 e0 p0) (.num 0 0 p0) p0) (.call 19 e0 p0 (.cons (.var 0 e0 p0) (.cons (.num 8 0 p0) .nil)) p0) (.num 0 0 p0) p0) p0)
  (.cons
  (.ifs (.cmp .Lt (.var 3 e0 p0) (.num 5 0 p0) p0) (.cons
    (.par2 4 5 e0 e0 p0 p0 p0 0 (.call 23 e0 p0 (.cons (.var 0 e0 p0) (.cons (.var 1 e0 p0) (.cons (.num 1 0 p0) .nil))) p0) (.call 23 e0 p0 (.cons (.var 0 e0 p0) (.cons (.var 1 e0 p0) (.cons (.num 1 0 p0) .nil))) p0) 0 p0 p0)
    (.cons
    (.ret (.tup (.cons (.call 20 e0 p0 (.cons (.var 0 e0 p0) (.cons (.lst (.cons (.txt "lt" 0 p0) (.cons (.txt "le" 0 p0) (.cons (.txt "eq" 0 p0) (.cons (.txt "ne" 0 p0) .nil)))) p0) .nil)) p0) (.cons (.var 4 e0 p0) (.cons (.var 5 e0 p0) .nil))) 0 p0) p0)
    .nil)) .nil p0)
  (.cons
  (.ifs (.cmp .Eq (.var 3 e0 p0) (.num 5 0 p0) p0) (.cons
    (.ret (.tup (.cons (.txt "not" 0 p0) (.cons (.call 24 e0 p0 (.cons (.var 0 e0 p0) (.cons (.var 1 e0 p0) (.cons (.bin .Sub (.var 2 e0 p0) (.num 1 0 p0) p0) .nil))) p0) .nil)) 0 p0) p0)
    .nil) .nil p0)
  (.cons
  (.asg 6 e0 p0 (.call 20 e0 p0 (.cons (.var 0 e0 p0) (.cons (.lst (.cons (.txt "and" 0 p0) (.cons (.txt "or" 0 p0) .nil)) p0) .nil)) p0) p0)
  (.cons
  (.ret (.tup (.cons (.var 6 e0 p0) (.cons (.call 24 e0 p0 (.cons (.var 0 e0 p0) (.cons (.var 1 e0 p0) (.cons (.bin .Sub (.var 2 e0 p0) (.num 1 0 p0) p0) .nil))) p0) (.cons (.call 24 e0 p0 (.cons (.var 0 e0 p0) (.cons (.var 1 e0 p0) (.cons (.bin .Sub (.var 2 e0 p0) (.num 1 0 p0) p0) .nil))) p0) .nil))) 0 p0) p0)
  .nil)))))

def b25 : Ss := (.cons
  (.ifs (.cmp .Eq (.idx (.var 0 e0 p0) (.num 0 0 p0) p0) (.txt "number" 0 p0) p0) (.cons
    (.ret (.idx (.var 0 e0 p0) (.num 1 0 p0) p0) p0)
    .nil) .nil p0)
  (.cons
  (.ifs (.cmp .Eq (.idx (.var 0 e0 p0) (.num 0 0 p0) p0) (.txt "name" 0 p0) p0) (.cons
    (.ret (.idx (.var 1 e0 p0) (.idx (.var 0 e0 p0) (.num 1 0 p0) p0) p0) p0)
    .nil) .nil p0)
  (.cons
  (.ifs (.cmp .Eq (.idx (.var 0 e0 p0) (.num 0 0 p0) p0) (.txt "times" 0 p0) p0) (.cons
    (.ret (.bin .Mult (.idx (.var 0 e0 p0) (.num 1 0 p0) p0) (.call 25 e0 p0 (.cons (.idx (.var 0 e0 p0) (.num 2 0 p0) p0) (.cons (.var 1 e0 p0) .nil)) p0) p0) p0)
    .nil) .nil p0)
  (.cons
  (.asg 2 e0 p0 (.call 25 e0 p0 (.cons (.idx (.var 0 e0 p0) (.num 1 0 p0) p0) (.cons (.var 1 e0 p0) .nil)) p0) p0)
  (.cons
  (.ifs (.cmp .Eq (.idx (.var 0 e0 p0) (.num 0 0 p0) p0) (.txt "div" 0 p0) p0) (.cons
    (.ret (.bin .FloorDiv (.var 2 e0 p0) (.idx (.var 0 e0 p0) (.num 2 0 p0) p0) p0) p0)
    .nil) .nil p0)
  (.cons
  (.ifs (.cmp .Eq (.idx (.var 0 e0 p0) (.num 0 0 p0) p0) (.txt "mod" 0 p0) p0) (.cons
    (.ret (.bin .Sub (.var 2 e0 p0) (.bin .Mult (.idx (.var 0 e0 p0) (.num 2 0 p0) p0) (.bin .FloorDiv (.var 2 e0 p0) (.idx (.var 0 e0 p0) (.num 2 0 p0) p0) p0) p0) p0) p0)
    .nil) .nil p0)
  (.cons
  (.ret (.ife (.cmp .Eq (.idx (.var 0 e0 p0) (.num 0 0 p0) p0) (.txt "add" 0 p0) p0) (.bin .Add (.var 2 e0 p0) (.call 25 e0 p0 (.cons (.idx (.var 0 e0 p0) (.num 2 0 p0) p0) (.cons (.var 1 e0 p0) .nil)) p0) p0) (.bin .Sub (.var 2 e0 p0) (.call 25 e0 p0 (.cons (.idx (.var 0 e0 p0) (.num 2 0 p0) p0) (.cons (.var 1 e0 p0) .nil)) p0) p0) p0) p0)
  .nil)))))))

def b26 : Ss := (.cons
  (.ifs (.cmp .Eq (.idx (.var 0 e0 p0) (.num 0 0 p0) p0) (.txt "not" 0 p0) p0) (.cons
    (.ret (.nt (.call 26 e0 p0 (.cons (.idx (.var 0 e0 p0) (.num 1 0 p0) p0) (.cons (.var 1 e0 p0) .nil)) p0) p0) p0)
    .nil) .nil p0)
  (.cons
  (.ifs (.cmp .Eq (.idx (.var 0 e0 p0) (.num 0 0 p0) p0) (.txt "and" 0 p0) p0) (.cons
    (.ret (.bop true (.cons (.call 26 e0 p0 (.cons (.idx (.var 0 e0 p0) (.num 1 0 p0) p0) (.cons (.var 1 e0 p0) .nil)) p0) (.cons (.call 26 e0 p0 (.cons (.idx (.var 0 e0 p0) (.num 2 0 p0) p0) (.cons (.var 1 e0 p0) .nil)) p0) .nil)) p0) p0)
    .nil) .nil p0)
  (.cons
  (.ifs (.cmp .Eq (.idx (.var 0 e0 p0) (.num 0 0 p0) p0) (.txt "or" 0 p0) p0) (.cons
    (.ret (.bop false (.cons (.call 26 e0 p0 (.cons (.idx (.var 0 e0 p0) (.num 1 0 p0) p0) (.cons (.var 1 e0 p0) .nil)) p0) (.cons (.call 26 e0 p0 (.cons (.idx (.var 0 e0 p0) (.num 2 0 p0) p0) (.cons (.var 1 e0 p0) .nil)) p0) .nil)) p0) p0)
    .nil) .nil p0)
  (.cons
  (.asg 2 e0 p0 (.bin .Sub (.call 25 e0 p0 (.cons (.idx (.var 0 e0 p0) (.num 1 0 p0) p0) (.cons (.var 1 e0 p0) .nil)) p0) (.call 25 e0 p0 (.cons (.idx (.var 0 e0 p0) (.num 2 0 p0) p0) (.cons (.var 1 e0 p0) .nil)) p0) p0) p0)
  (.cons
  (.ret (.idx (.dct (.cons (.txt "lt" 0 p0) (.cons (.cmp .Lt (.var 2 e0 p0) (.num 0 0 p0) p0) (.cons (.txt "le" 0 p0) (.cons (.cmp .LtE (.var 2 e0 p0) (.num 0 0 p0) p0) (.cons (.txt "eq" 0 p0) (.cons (.cmp .Eq (.var 2 e0 p0) (.num 0 0 p0) p0) (.cons (.txt "ne" 0 p0) (.cons (.cmp .NotEq (.var 2 e0 p0) (.num 0 0 p0) p0) .nil)))))))) p0) (.idx (.var 0 e0 p0) (.num 0 0 p0) p0) p0) p0)
  .nil)))))

def b27 : Ss := (.cons
  (.asg 3 e0 p0 (.idx (.var 0 e0 p0) (.num 0 0 p0) p0) p0)
  (.cons
  (.ifs (.cmp .Eq (.var 3 e0 p0) (.txt "number" 0 p0) p0) (.cons
    (.ret (.bin .Mult (.var 1 e0 p0) (.idx (.var 0 e0 p0) (.num 1 0 p0) p0) p0) p0)
    .nil) .nil p0)
  (.cons
  (.ifs (.cmp .Eq (.var 3 e0 p0) (.txt "times" 0 p0) p0) (.cons
    (.ret (.call 27 e0 p0 (.cons (.idx (.var 0 e0 p0) (.num 2 0 p0) p0) (.cons (.bin .Mult (.var 1 e0 p0) (.idx (.var 0 e0 p0) (.num 1 0 p0) p0) p0) (.cons (.var 2 e0 p0) .nil))) p0) p0)
    .nil) .nil p0)
  (.cons
  (.ifs (.cmp .In (.var 3 e0 p0) (.tup (.cons (.txt "add" 0 p0) (.cons (.txt "sub" 0 p0) .nil)) 0 p0) p0) (.cons
    (.ret (.bin .Add (.call 27 e0 p0 (.cons (.idx (.var 0 e0 p0) (.num 1 0 p0) p0) (.cons (.var 1 e0 p0) (.cons (.var 2 e0 p0) .nil))) p0) (.call 27 e0 p0 (.cons (.idx (.var 0 e0 p0) (.num 2 0 p0) p0) (.cons (.ife (.cmp .Eq (.var 3 e0 p0) (.txt "add" 0 p0) p0) (.var 1 e0 p0) (.bin .Sub (.num 0 0 p0) (.var 1 e0 p0) p0) p0) (.cons (.var 2 e0 p0) .nil))) p0) p0) p0)
    .nil) .nil p0)
  (.cons
  (.asg 4 e0 p0 (.var 0 e0 p0) p0)
  (.cons
  (.ifs (.cmp .In (.var 3 e0 p0) (.tup (.cons (.txt "div" 0 p0) (.cons (.txt "mod" 0 p0) .nil)) 0 p0) p0) (.cons
    (.asg 5 e0 p0 (.call 28 e0 p0 (.cons (.idx (.var 0 e0 p0) (.num 1 0 p0) p0) .nil) p0) p0)
    (.cons
    (.ifs (.cmp .Eq (.idx (.var 5 e0 p0) (.num 0 0 p0) p0) (.txt "number" 0 p0) p0) (.cons
      (.asg 6 e0 p0 (.bin .FloorDiv (.idx (.var 5 e0 p0) (.num 1 0 p0) p0) (.idx (.var 0 e0 p0) (.num 2 0 p0) p0) p0) p0)
      (.cons
      (.ret (.bin .Mult (.var 1 e0 p0) (.ife (.cmp .Eq (.var 3 e0 p0) (.txt "div" 0 p0) p0) (.var 6 e0 p0) (.bin .Sub (.idx (.var 5 e0 p0) (.num 1 0 p0) p0) (.bin .Mult (.idx (.var 0 e0 p0) (.num 2 0 p0) p0) (.var 6 e0 p0) p0) p0) p0) p0) p0)
      .nil)) .nil p0)
    (.cons
    (.asg 4 e0 p0 (.tup (.cons (.var 3 e0 p0) (.cons (.var 5 e0 p0) (.cons (.idx (.var 0 e0 p0) (.num 2 0 p0) p0) .nil))) 0 p0) p0)
    .nil))) .nil p0)
  (.cons
  (.forr (.name 7 e0 p0) (.seq (.var 2 e0 p0)) (.cons
    (.ifs (.cmp .Eq (.idx (.var 7 e0 p0) (.num 0 0 p0) p0) (.var 4 e0 p0) p0) (.cons
      (.put (.var 7 e0 p0) (.num 1 0 p0) (.bin .Add (.idx (.var 7 e0 p0) (.num 1 0 p0) p0) (.var 1 e0 p0) p0) p0 p0)
      (.cons
      (.ret (.num 0 0 p0) p0)
      .nil)) .nil p0)
    .nil) p0)
  (.cons
  (.exp (.mth .append (.var 2 e0 p0) p0 (.cons (.lst (.cons (.var 4 e0 p0) (.cons (.var 1 e0 p0) .nil)) p0) .nil) p0) p0)
  (.cons
  (.ret (.num 0 0 p0) p0)
  .nil)))))))))

def b28 : Ss := (.cons
  (.asg 1 e0 p0 (.lst .nil p0) p0)
  (.cons
  (.asg 2 e0 p0 (.call 27 e0 p0 (.cons (.var 0 e0 p0) (.cons (.num 1 0 p0) (.cons (.var 1 e0 p0) .nil))) p0) p0)
  (.cons
  (.asg 3 e0 p0 (.ife (.cmp .NotEq (.var 2 e0 p0) (.num 0 0 p0) p0) (.lst (.cons (.tup (.cons (.txt "number" 0 p0) (.cons (.var 2 e0 p0) .nil)) 0 p0) .nil) p0) (.lst .nil p0) p0) p0)
  (.cons
  (.forr (.tup [(.name 4 e0 p0), (.name 5 e0 p0)] 0 p0) (.seq (.blt .sorted p0 (.cons (.var 1 e0 p0) .nil) p0)) (.cons
    (.ifs (.cmp .NotEq (.var 5 e0 p0) (.num 0 0 p0) p0) (.cons
      (.exp (.mth .append (.var 3 e0 p0) p0 (.cons (.ife (.cmp .Eq (.var 5 e0 p0) (.num 1 0 p0) p0) (.var 4 e0 p0) (.tup (.cons (.txt "times" 0 p0) (.cons (.var 5 e0 p0) (.cons (.var 4 e0 p0) .nil))) 0 p0) p0) .nil) p0) p0)
      .nil) .nil p0)
    .nil) p0)
  (.cons
  (.asg 6 e0 p0 (.ife (.cmp .NotEq (.var 3 e0 p0) (.lst .nil p0) p0) (.idx (.var 3 e0 p0) (.num 0 0 p0) p0) (.tup (.cons (.txt "number" 0 p0) (.cons (.num 0 0 p0) .nil)) 0 p0) p0) p0)
  (.cons
  (.forr (.name 7 e0 p0) (.seq (.slc (.var 3 e0 p0) (.some (.num 1 0 p0)) .none p0 p0)) (.cons
    (.asg 6 e0 p0 (.tup (.cons (.txt "add" 0 p0) (.cons (.var 6 e0 p0) (.cons (.var 7 e0 p0) .nil))) 0 p0) p0)
    .nil) p0)
  (.cons
  (.ret (.var 6 e0 p0) p0)
  .nil)))))))

def b29 : Ss := (.cons
  (.asg 2 e0 p0 (.idx (.var 0 e0 p0) (.num 0 0 p0) p0) p0)
  (.cons
  (.ifs (.cmp .Eq (.var 2 e0 p0) (.txt "not" 0 p0) p0) (.cons
    (.ret (.call 29 e0 p0 (.cons (.idx (.var 0 e0 p0) (.num 1 0 p0) p0) (.cons (.nt (.var 1 e0 p0) p0) .nil)) p0) p0)
    .nil) .nil p0)
  (.cons
  (.ifs (.cmp .In (.var 2 e0 p0) (.tup (.cons (.txt "and" 0 p0) (.cons (.txt "or" 0 p0) .nil)) 0 p0) p0) (.cons
    (.par2 3 4 e0 e0 p0 p0 p0 0 (.call 29 e0 p0 (.cons (.idx (.var 0 e0 p0) (.num 1 0 p0) p0) (.cons (.var 1 e0 p0) .nil)) p0) (.call 29 e0 p0 (.cons (.idx (.var 0 e0 p0) (.num 2 0 p0) p0) (.cons (.var 1 e0 p0) .nil)) p0) 0 p0 p0)
    (.cons
    (.ifs (.cmp .Eq (.cmp .Eq (.var 2 e0 p0) (.txt "or" 0 p0) p0) (.var 1 e0 p0) p0) (.cons
      (.ret (.bin .Add (.var 3 e0 p0) (.var 4 e0 p0) p0) p0)
      .nil) .nil p0)
    (.cons
    (.asg 5 e0 p0 (.lst .nil p0) p0)
    (.cons
    (.forr (.name 6 e0 p0) (.seq (.var 3 e0 p0)) (.cons
      (.exp (.mth .extend (.var 5 e0 p0) p0 (.cons (.lc (.bin .Add (.var 6 e0 p0) (.var 7 e0 p0) p0) (.name 7 e0 p0) (.seq (.var 4 e0 p0)) .nil s0 [(e0, 7)] p0) .nil) p0) p0)
      .nil) p0)
    (.cons
    (.ret (.var 5 e0 p0) p0)
    .nil))))) .nil p0)
  (.cons
  (.par2 3 4 e0 e0 p0 p0 p0 0 (.call 28 e0 p0 (.cons (.idx (.var 0 e0 p0) (.num 1 0 p0) p0) .nil) p0) (.call 28 e0 p0 (.cons (.idx (.var 0 e0 p0) (.num 2 0 p0) p0) .nil) p0) 0 p0 p0)
  (.cons
  (.ifs (.nt (.var 1 e0 p0) p0) (.cons
    (.asg 2 e0 p0 (.idx (.dct (.cons (.txt "lt" 0 p0) (.cons (.txt "le" 0 p0) (.cons (.txt "le" 0 p0) (.cons (.txt "lt" 0 p0) (.cons (.txt "eq" 0 p0) (.cons (.txt "ne" 0 p0) (.cons (.txt "ne" 0 p0) (.cons (.txt "eq" 0 p0) .nil)))))))) p0) (.var 2 e0 p0) p0) p0)
    (.cons
    (.unp (.tup [(.name 3 e0 p0), (.name 4 e0 p0)] 0 p0) (.ife (.cmp .In (.var 2 e0 p0) (.tup (.cons (.txt "lt" 0 p0) (.cons (.txt "le" 0 p0) .nil)) 0 p0) p0) (.tup (.cons (.var 4 e0 p0) (.cons (.var 3 e0 p0) .nil)) 0 p0) (.tup (.cons (.var 3 e0 p0) (.cons (.var 4 e0 p0) .nil)) 0 p0) p0) p0)
    .nil)) .nil p0)
  (.cons
  (.asg 8 e0 p0 (.lc (.call 28 e0 p0 (.cons (.tup (.cons (.txt "add" 0 p0) (.cons (.var 9 e0 p0) (.cons (.tup (.cons (.txt "number" 0 p0) (.cons (.num 1 0 p0) .nil)) 0 p0) .nil))) 0 p0) .nil) p0) (.name 9 e0 p0) (.seq (.tup (.cons (.var 3 e0 p0) (.cons (.var 4 e0 p0) .nil)) 0 p0)) .nil s0 [(e0, 9)] p0) p0)
  (.cons
  (.ifs (.cmp .In (.var 2 e0 p0) (.tup (.cons (.txt "lt" 0 p0) (.cons (.txt "le" 0 p0) .nil)) 0 p0) p0) (.cons
    (.ret (.lst (.cons (.lst (.cons (.tup (.cons (.ife (.cmp .Eq (.var 2 e0 p0) (.txt "lt" 0 p0) p0) (.idx (.var 8 e0 p0) (.num 0 0 p0) p0) (.var 3 e0 p0) p0) (.cons (.var 4 e0 p0) .nil)) 0 p0) .nil) p0) .nil) p0) p0)
    .nil) .nil p0)
  (.cons
  (.ret (.ife (.cmp .Eq (.var 2 e0 p0) (.txt "eq" 0 p0) p0) (.lst (.cons (.lst (.cons (.tup (.cons (.var 3 e0 p0) (.cons (.var 4 e0 p0) .nil)) 0 p0) (.cons (.tup (.cons (.var 4 e0 p0) (.cons (.var 3 e0 p0) .nil)) 0 p0) .nil)) p0) .nil) p0) (.lst (.cons (.lst (.cons (.tup (.cons (.idx (.var 8 e0 p0) (.num 0 0 p0) p0) (.cons (.var 4 e0 p0) .nil)) 0 p0) .nil) p0) (.cons (.lst (.cons (.tup (.cons (.idx (.var 8 e0 p0) (.num 1 0 p0) p0) (.cons (.var 3 e0 p0) .nil)) 0 p0) .nil) p0) .nil)) p0) p0) p0)
  .nil))))))))

def b30 : Ss := (.cons
  (.asg 3 e0 p0 (.call 28 e0 p0 (.cons (.var 1 e0 p0) .nil) p0) p0)
  (.cons
  (.ifs (.nt (.call 21 e0 p0 (.cons (.lst (.cons (.call 11 e0 p0 (.cons (.var 1 e0 p0) .nil) p0) (.cons (.callK 11 e0 p0 [] [0] (.cons (.call 22 e0 p0 (.cons (.var 0 e0 p0) (.cons (.var 1 e0 p0) .nil)) p0) .nil) p0) (.cons (.call 11 e0 p0 (.cons (.var 3 e0 p0) .nil) p0) .nil))) p0) (.cons (.lst (.cons (.var 3 e0 p0) (.cons (.var 3 e0 p0) (.cons (.var 3 e0 p0) .nil))) p0) .nil)) p0) p0) (.cons
    (.ret (.boo false 0 p0) p0)
    .nil) .nil p0)
  (.cons
  (.forr (.name 4 e0 p0) (.rng1 p0 (.num 4 0 p0) p0) (.cons
    (.asg 5 e0 p0 (.blt .dict p0 (.cons (.lc (.tup (.cons (.var 6 e0 p0) (.cons (.bin .Sub (.call 19 e0 p0 (.cons (.var 0 e0 p0) (.cons (.num 60 0 p0) .nil)) p0) (.num 30 0 p0) p0) .nil)) 0 p0) (.name 6 e0 p0) (.seq (.var 2 e0 p0)) .nil s0 [(e0, 6)] p0) .nil) p0) p0)
    (.cons
    (.ifs (.cmp .NotEq (.call 25 e0 p0 (.cons (.var 1 e0 p0) (.cons (.var 5 e0 p0) .nil)) p0) (.call 25 e0 p0 (.cons (.var 3 e0 p0) (.cons (.var 5 e0 p0) .nil)) p0) p0) (.cons
      (.ret (.boo false 0 p0) p0)
      .nil) .nil p0)
    .nil)) p0)
  (.cons
  (.ret (.boo true 0 p0) p0)
  .nil))))

def b31 : Ss := (.cons
  (.asg 3 e0 p0 (.call 29 e0 p0 (.cons (.var 1 e0 p0) (.cons (.boo true 0 p0) .nil)) p0) p0)
  (.cons
  (.asg 4 e0 p0 (.call 17 e0 p0 (.cons (.var 1 e0 p0) .nil) p0) p0)
  (.cons
  (.ifs (.nt (.call 21 e0 p0 (.cons (.lst (.cons (.var 4 e0 p0) (.cons (.callK 17 e0 p0 [] [0] (.cons (.call 22 e0 p0 (.cons (.var 0 e0 p0) (.cons (.var 1 e0 p0) .nil)) p0) .nil) p0) .nil)) p0) (.cons (.lst (.cons (.var 3 e0 p0) (.cons (.var 3 e0 p0) .nil)) p0) .nil)) p0) p0) (.cons
    (.ret (.boo false 0 p0) p0)
    .nil) .nil p0)
  (.cons
  (.forr (.name 5 e0 p0) (.rng1 p0 (.num 4 0 p0) p0) (.cons
    (.asg 6 e0 p0 (.blt .dict p0 (.cons (.lc (.tup (.cons (.var 7 e0 p0) (.cons (.bin .Sub (.call 19 e0 p0 (.cons (.var 0 e0 p0) (.cons (.num 14 0 p0) .nil)) p0) (.num 7 0 p0) p0) .nil)) 0 p0) (.name 7 e0 p0) (.seq (.var 2 e0 p0)) .nil s0 [(e0, 7)] p0) .nil) p0) p0)
    (.cons
    (.asg 8 e0 p0 (.lc (.blt .all p0 (.cons (.lc (.cmp .LtE (.call 25 e0 p0 (.cons (.var 9 e0 p0) (.cons (.var 6 e0 p0) .nil)) p0) (.call 25 e0 p0 (.cons (.var 10 e0 p0) (.cons (.var 6 e0 p0) .nil)) p0) p0) (.tup [(.name 9 e0 p0), (.name 10 e0 p0)] 0 p0) (.seq (.var 11 e0 p0)) .nil s0 [(e0, 9), (e0, 10)] p0) .nil) p0) (.name 11 e0 p0) (.seq (.var 3 e0 p0)) .nil s0 [(e0, 11)] p0) p0)
    (.cons
    (.ifs (.cmp .NotEq (.blt .any p0 (.cons (.var 8 e0 p0) .nil) p0) (.call 26 e0 p0 (.cons (.var 1 e0 p0) (.cons (.var 6 e0 p0) .nil)) p0) p0) (.cons
      (.ret (.boo false 0 p0) p0)
      .nil) .nil p0)
    .nil))) p0)
  (.cons
  (.exp (.mth .append (.idx (.var 4 e0 p0) (.num 0 0 p0) p0) p0 (.cons (.txt "late" 0 p0) .nil) p0) p0)
  (.cons
  (.ret (.call 21 e0 p0 (.cons (.call 17 e0 p0 (.cons (.var 1 e0 p0) .nil) p0) (.cons (.var 3 e0 p0) .nil)) p0) p0)
  .nil))))))

def b32 : Ss := (.cons
  (.asg 0 e0 p0 (.lst (.cons (.non 0 p0) (.cons (.num 5 0 p0) (.cons (.txt "x" 0 p0) (.cons (.tup .nil 0 p0) (.cons (.dct .nil p0) (.cons (.tup (.cons (.txt "number" 0 p0) (.cons (.boo true 0 p0) .nil)) 0 p0) (.cons (.tup (.cons (.txt "name" 0 p0) (.cons (.num 5 0 p0) .nil)) 0 p0) (.cons (.tup (.cons (.txt "times" 0 p0) (.cons (.num 2 0 p0) .nil)) 0 p0) (.cons (.tup (.cons (.txt "div" 0 p0) (.cons (.tup (.cons (.txt "number" 0 p0) (.cons (.num 1 0 p0) .nil)) 0 p0) (.cons (.num 0 0 p0) .nil))) 0 p0) (.cons (.tup (.cons (.txt "add" 0 p0) (.cons (.non 0 p0) (.cons (.non 0 p0) .nil))) 0 p0) .nil)))))))))) p0) p0)
  (.cons
  (.forr (.name 1 e0 p0) (.seq (.bin .Add (.var 0 e0 p0) (.lst (.cons (.tup (.cons (.txt "mod" 0 p0) (.cons (.tup (.cons (.txt "name" 0 p0) (.cons (.txt "u0" 0 p0) .nil)) 0 p0) (.cons (.txt "2" 0 p0) .nil))) 0 p0) (.cons (.tup (.cons (.txt "lt" 0 p0) (.cons (.tup (.cons (.txt "number" 0 p0) (.cons (.num 1 0 p0) .nil)) 0 p0) (.cons (.tup (.cons (.txt "number" 0 p0) (.cons (.num 2 0 p0) .nil)) 0 p0) .nil))) 0 p0) (.cons (.lst (.cons (.txt "name" 0 p0) .nil) p0) .nil))) p0) p0)) (.cons
    (.ifs (.nt (.call 21 e0 p0 (.cons (.met [("BadExpression", "expression", "expression"), ("BadCondition", "condition", "condition")] e0 p0 (.call 11 e0 p0 (.cons (.var 1 e0 p0) .nil) p0) s0 p0 p0) (.cons (.tup (.cons (.txt "expression" 0 p0) (.cons (.var 1 e0 p0) .nil)) 0 p0) .nil)) p0) p0) (.cons
      (.ret (.boo false 0 p0) p0)
      .nil) .nil p0)
    .nil) p0)
  (.cons
  (.asg 2 e0 p0 (.tup (.cons (.txt "number" 0 p0) (.cons (.num 1 0 p0) .nil)) 0 p0) p0)
  (.cons
  (.forr (.name 1 e0 p0) (.seq (.bin .Add (.var 0 e0 p0) (.lst (.cons (.tup (.cons (.txt "lt" 0 p0) (.cons (.var 2 e0 p0) .nil)) 0 p0) (.cons (.tup (.cons (.txt "and" 0 p0) (.cons (.tup (.cons (.txt "lt" 0 p0) (.cons (.var 2 e0 p0) (.cons (.var 2 e0 p0) .nil))) 0 p0) (.cons (.var 2 e0 p0) .nil))) 0 p0) (.cons (.tup (.cons (.txt "not" 0 p0) (.cons (.var 2 e0 p0) .nil)) 0 p0) (.cons (.tup (.cons (.txt "ne" 0 p0) (.cons (.var 2 e0 p0) (.cons (.non 0 p0) .nil))) 0 p0) (.cons (.var 2 e0 p0) .nil))))) p0) p0)) (.cons
    (.ifs (.nt (.call 21 e0 p0 (.cons (.met [("BadExpression", "expression", "expression"), ("BadCondition", "condition", "condition")] e0 p0 (.call 17 e0 p0 (.cons (.var 1 e0 p0) .nil) p0) s0 p0 p0) (.cons (.tup (.cons (.txt "condition" 0 p0) (.cons (.var 1 e0 p0) .nil)) 0 p0) .nil)) p0) p0) (.cons
      (.ret (.boo false 0 p0) p0)
      .nil) .nil p0)
    .nil) p0)
  (.cons
  (.asg 3 e0 p0 (.lst (.cons (.txt "x" 0 p0) .nil) p0) p0)
  (.cons
  (.asg 4 e0 p0 (.lst (.cons (.met [("BadExpression", "expression", "expression"), ("BadCondition", "condition", "condition")] e0 p0 (.call 11 e0 p0 (.cons (.var 3 e0 p0) .nil) p0) s0 p0 p0) (.cons (.call 21 e0 p0 (.cons (.var 3 e0 p0) (.cons (.lst (.cons (.txt "x" 0 p0) .nil) p0) .nil)) p0) .nil)) p0) p0)
  (.cons
  (.exp (.mth .append (.var 3 e0 p0) p0 (.cons (.txt "late" 0 p0) .nil) p0) p0)
  (.cons
  (.ret (.call 21 e0 p0 (.cons (.var 4 e0 p0) (.cons (.lst (.cons (.tup (.cons (.txt "expression" 0 p0) (.cons (.lst (.cons (.txt "x" 0 p0) (.cons (.txt "late" 0 p0) .nil)) p0) .nil)) 0 p0) (.cons (.boo true 0 p0) .nil)) p0) .nil)) p0) p0)
  .nil))))))))

def b33 : Ss := (.cons
  (.asg 1 e0 p0 (.call 18 e0 p0 (.cons (.var 0 e0 p0) .nil) p0) p0)
  (.cons
  (.forr (.name 2 e0 p0) (.rng1 p0 (.num 10 0 p0) p0) (.cons
    (.asg 3 e0 p0 (.call 20 e0 p0 (.cons (.var 1 e0 p0) (.cons (.lst (.cons (.lst (.cons (.txt "u0" 0 p0) .nil) p0) (.cons (.lst (.cons (.txt "u0" 0 p0) (.cons (.txt "u1" 0 p0) .nil)) p0) (.cons (.lst (.cons (.txt "u1" 0 p0) (.cons (.txt "u10" 0 p0) (.cons (.txt "u2" 0 p0) .nil))) p0) (.cons (.lst (.cons (.txt "x" 0 p0) (.cons (.txt "u0" 0 p0) (.cons (.txt "" 0 p0) .nil))) p0) .nil)))) p0) .nil)) p0) p0)
    (.cons
    (.ifs (.nt (.call 30 e0 p0 (.cons (.var 1 e0 p0) (.cons (.call 23 e0 p0 (.cons (.var 1 e0 p0) (.cons (.var 3 e0 p0) (.cons (.num 4 0 p0) .nil))) p0) (.cons (.var 3 e0 p0) .nil))) p0) p0) (.cons
      (.ret (.boo false 0 p0) p0)
      .nil) .nil p0)
    (.cons
    (.ifs (.nt (.call 31 e0 p0 (.cons (.var 1 e0 p0) (.cons (.call 24 e0 p0 (.cons (.var 1 e0 p0) (.cons (.var 3 e0 p0) (.cons (.num 2 0 p0) .nil))) p0) (.cons (.var 3 e0 p0) .nil))) p0) p0) (.cons
      (.ret (.boo false 0 p0) p0)
      .nil) .nil p0)
    .nil))) p0)
  (.cons
  (.asg 4 e0 p0 (.tup (.cons (.txt "add" 0 p0) (.cons (.tup (.cons (.txt "name" 0 p0) (.cons (.txt "u0" 0 p0) .nil)) 0 p0) (.cons (.tup (.cons (.txt "sub" 0 p0) (.cons (.tup (.cons (.txt "number" 0 p0) (.cons (.num 2 0 p0) .nil)) 0 p0) (.cons (.tup (.cons (.txt "name" 0 p0) (.cons (.txt "u0" 0 p0) .nil)) 0 p0) .nil))) 0 p0) .nil))) 0 p0) p0)
  (.cons
  (.asg 5 e0 p0 (.lst (.cons (.call 11 e0 p0 (.cons (.var 4 e0 p0) .nil) p0) (.cons (.call 11 e0 p0 (.cons (.tup (.cons (.txt "mod" 0 p0) (.cons (.var 4 e0 p0) (.cons (.num 2 0 p0) .nil))) 0 p0) .nil) p0) (.cons (.call 11 e0 p0 (.cons (.tup (.cons (.txt "div" 0 p0) (.cons (.tup (.cons (.txt "add" 0 p0) (.cons (.tup (.cons (.txt "name" 0 p0) (.cons (.txt "b" 0 p0) .nil)) 0 p0) (.cons (.tup (.cons (.txt "name" 0 p0) (.cons (.txt "a" 0 p0) .nil)) 0 p0) .nil))) 0 p0) (.cons (.num 3 0 p0) .nil))) 0 p0) .nil) p0) .nil))) p0) p0)
  (.cons
  (.asg 6 e0 p0 (.lst (.cons (.tup (.cons (.txt "number" 0 p0) (.cons (.num 2 0 p0) .nil)) 0 p0) (.cons (.tup (.cons (.txt "number" 0 p0) (.cons (.num 0 0 p0) .nil)) 0 p0) (.cons (.tup (.cons (.txt "div" 0 p0) (.cons (.tup (.cons (.txt "add" 0 p0) (.cons (.tup (.cons (.txt "name" 0 p0) (.cons (.txt "a" 0 p0) .nil)) 0 p0) (.cons (.tup (.cons (.txt "name" 0 p0) (.cons (.txt "b" 0 p0) .nil)) 0 p0) .nil))) 0 p0) (.cons (.num 3 0 p0) .nil))) 0 p0) .nil))) p0) p0)
  (.cons
  (.ret (.bop true (.cons (.call 21 e0 p0 (.cons (.var 5 e0 p0) (.cons (.var 6 e0 p0) .nil)) p0) (.cons (.call 32 e0 p0 .nil p0) .nil)) p0) p0)
  .nil))))))


theorem e0 : f0.body.er = b0 := by kernel_rfl
theorem e1 : f1.body.er = b1 := by kernel_rfl
theorem e2 : f2.body.er = b2 := by kernel_rfl
theorem e3 : f3.body.er = b3 := by kernel_rfl
theorem e4 : f4.body.er = b4 := by kernel_rfl
theorem e5 : f5.body.er = b5 := by kernel_rfl
theorem e6 : f6.body.er = b6 := by kernel_rfl
theorem e7 : f7.body.er = b7 := by kernel_rfl
theorem e8 : f8.body.er = b8 := by kernel_rfl
theorem e9 : f9.body.er = b9 := by kernel_rfl
theorem e10 : f10.body.er = b10 := by kernel_rfl
theorem e11 : f11.body.er = b11 := by kernel_rfl
theorem e12 : f12.body.er = b12 := by kernel_rfl
theorem e13 : f13.body.er = b13 := by kernel_rfl
theorem e14 : f14.body.er = b14 := by kernel_rfl
theorem e15 : f15.body.er = b15 := by kernel_rfl
theorem e16 : f16.body.er = b16 := by kernel_rfl
theorem e17 : f17.body.er = b17 := by kernel_rfl
theorem e18 : f18.body.er = b18 := by kernel_rfl
theorem e19 : f19.body.er = b19 := by kernel_rfl
theorem e20 : f20.body.er = b20 := by kernel_rfl
theorem e21 : f21.body.er = b21 := by kernel_rfl
theorem e22 : f22.body.er = b22 := by kernel_rfl
theorem e23 : f23.body.er = b23 := by kernel_rfl
theorem e24 : f24.body.er = b24 := by kernel_rfl
theorem e25 : f25.body.er = b25 := by kernel_rfl
theorem e26 : f26.body.er = b26 := by kernel_rfl
theorem e27 : f27.body.er = b27 := by kernel_rfl
theorem e28 : f28.body.er = b28 := by kernel_rfl
theorem e29 : f29.body.er = b29 := by kernel_rfl
theorem e30 : f30.body.er = b30 := by kernel_rfl
theorem e31 : f31.body.er = b31 := by kernel_rfl
theorem e32 : f32.body.er = b32 := by kernel_rfl
theorem e33 : f33.body.er = b33 := by kernel_rfl
end K74
set_option linter.all false
set_option maxRecDepth 100000
set_option maxHeartbeats 4000000
namespace K74
open PySem PySem.Spec PyProof.Rows L2 PD
/-! ### trees -/
inductive Ex where
  | num (i : Int)
  | nam (x : Str)
  | ad (a b : Ex)
  | sb (a b : Ex)
  | tim (k : Int) (a : Ex)
  | dv (a : Ex) (k : Int)
  | md (a : Ex) (k : Int)
def Ex.d : Ex → D
  | .num i => .tup [.str "number", .int i]
  | .nam x => .tup [.str "name", .str x]
  | .ad a b => .tup [.str "add", a.d, b.d]
  | .sb a b => .tup [.str "sub", a.d, b.d]
  | .tim k a => .tup [.str "times", .int k, a.d]
  | .dv a k => .tup [.str "div", a.d, .int k]
  | .md a k => .tup [.str "mod", a.d, .int k]
def Ex.p : Ex → PyData
  | .num i => .tuple [.str "number", .int i]
  | .nam x => .tuple [.str "name", .str x]
  | .ad a b => .tuple [.str "add", a.p, b.p]
  | .sb a b => .tuple [.str "sub", a.p, b.p]
  | .tim k a => .tuple [.str "times", .int k, a.p]
  | .dv a k => .tuple [.str "div", a.p, .int k]
  | .md a k => .tuple [.str "mod", a.p, .int k]
def Ex.dep : Ex → Nat
  | .num _ => 1
  | .nam _ => 1
  | .ad a b => max a.dep b.dep + 1
  | .sb a b => max a.dep b.dep + 1
  | .tim _ a => a.dep + 1
  | .dv a _ => a.dep + 1
  | .md a _ => a.dep + 1
theorem toP_3 {g : G} {k : Nat} {w a b : D} {pw pa pb : PyData} (hw : toP g k w = some pw) (ha : toP g k a = some pa) (hb : toP g k b = some pb) : toP g (k + 1) (.tup [w, a, b]) = some (.tuple [pw, pa, pb]) := by
  show (allP (toP g k) [w, a, b]).map PyData.tuple = _
  simp only [allP, hw, ha, hb]
  rfl
theorem toP_s {g : G} {k : Nat} {x : Str} : toP g (k + 1) (.str x) = some (.str x) := rfl
theorem toP_i {g : G} {k : Nat} {x : Int} : toP g (k + 1) (.int x) = some (.int x) := rfl
theorem toP_d (g : G) : ∀ (t : Ex) (k : Nat), toP g (t.dep + k + 1) t.d = some t.p
  | .num i, k => by rw [show (Ex.num i).dep + k + 1 = (k + 1) + 1 from by show 1 + k + 1 = _; omega]; rfl
  | .nam i, k => by rw [show (Ex.nam i).dep + k + 1 = (k + 1) + 1 from by show 1 + k + 1 = _; omega]; rfl
  | .ad a b, k => by
    rw [show (Ex.ad a b).dep + k + 1 = (max a.dep b.dep + k + 1) + 1 from by show max a.dep b.dep + 1 + k + 1 = _; omega]
    have ha := toP_d g a (max a.dep b.dep - a.dep + k)
    have hb := toP_d g b (max a.dep b.dep - b.dep + k)
    rw [show a.dep + (max a.dep b.dep - a.dep + k) + 1 = max a.dep b.dep + k + 1 from by omega] at ha
    rw [show b.dep + (max a.dep b.dep - b.dep + k) + 1 = max a.dep b.dep + k + 1 from by omega] at hb
    exact toP_3 toP_s ha hb
  | .sb a b, k => by
    rw [show (Ex.sb a b).dep + k + 1 = (max a.dep b.dep + k + 1) + 1 from by show max a.dep b.dep + 1 + k + 1 = _; omega]
    have ha := toP_d g a (max a.dep b.dep - a.dep + k)
    have hb := toP_d g b (max a.dep b.dep - b.dep + k)
    rw [show a.dep + (max a.dep b.dep - a.dep + k) + 1 = max a.dep b.dep + k + 1 from by omega] at ha
    rw [show b.dep + (max a.dep b.dep - b.dep + k) + 1 = max a.dep b.dep + k + 1 from by omega] at hb
    exact toP_3 toP_s ha hb
  | .tim i a, k => by
    rw [show (Ex.tim i a).dep + k + 1 = (a.dep + k + 1) + 1 from by show a.dep + 1 + k + 1 = _; omega]
    exact toP_3 toP_s toP_i (toP_d g a k)
  | .dv a i, k => by
    rw [show (Ex.dv a i).dep + k + 1 = (a.dep + k + 1) + 1 from by show a.dep + 1 + k + 1 = _; omega]
    exact toP_3 toP_s (toP_d g a k) toP_i
  | .md a i, k => by
    rw [show (Ex.md a i).dep + k + 1 = (a.dep + k + 1) + 1 from by show a.dep + 1 + k + 1 = _; omega]
    exact toP_3 toP_s (toP_d g a k) toP_i
theorem toP_le (g : G) (t : Ex) {k : Nat} (h : t.dep < k) : toP g k t.d = some t.p := by
  have := toP_d g t (k - t.dep - 1)
  rw [show t.dep + (k - t.dep - 1) + 1 = k from by omega] at this
  exact this
/-- the names are plain texts -/
def Ex.nk : Ex → Prop
  | .num _ => True
  | .nam x => PyData.strOk x = true
  | .ad a b => a.nk ∧ b.nk
  | .sb a b => a.nk ∧ b.nk
  | .tim _ a => a.nk
  | .dv a _ => a.nk
  | .md a _ => a.nk
theorem so1 : PyData.strOk "number" = true := by decide +kernel
theorem so2 : PyData.strOk "name" = true := by decide +kernel
theorem so3 : PyData.strOk "add" = true := by decide +kernel
theorem so4 : PyData.strOk "sub" = true := by decide +kernel
theorem so5 : PyData.strOk "times" = true := by decide +kernel
theorem so6 : PyData.strOk "div" = true := by decide +kernel
theorem so7 : PyData.strOk "mod" = true := by decide +kernel
theorem can_p : ∀ t : Ex, t.nk → t.p.canLay0 = true
  | .num _, _ => by simp [Ex.p, PyData.canLay0, PyData.canLayAll0, so1]
  | .nam _, h => by simp [Ex.p, PyData.canLay0, PyData.canLayAll0, so2, show PyData.strOk _ = true from h]
  | .ad a b, h => by simp [Ex.p, PyData.canLay0, PyData.canLayAll0, can_p a h.1, can_p b h.2, so3]
  | .sb a b, h => by simp [Ex.p, PyData.canLay0, PyData.canLayAll0, can_p a h.1, can_p b h.2, so4]
  | .tim _ a, h => by simp [Ex.p, PyData.canLay0, PyData.canLayAll0, can_p a h, so5]
  | .dv a _, h => by simp [Ex.p, PyData.canLay0, PyData.canLayAll0, can_p a h, so6]
  | .md a _, h => by simp [Ex.p, PyData.canLay0, PyData.canLayAll0, can_p a h, so7]
theorem dep_p : ∀ t : Ex, t.p.depth ≤ t.dep + 1
  | .num _ => by simp [Ex.p, PyData.depth, PyData.depthAll, Ex.dep]
  | .nam _ => by simp [Ex.p, PyData.depth, PyData.depthAll, Ex.dep]
  | .ad a b => by have := dep_p a; have := dep_p b; simp [Ex.p, PyData.depth, PyData.depthAll, Ex.dep]; omega
  | .sb a b => by have := dep_p a; have := dep_p b; simp [Ex.p, PyData.depth, PyData.depthAll, Ex.dep]; omega
  | .tim _ a => by have := dep_p a; simp [Ex.p, PyData.depth, PyData.depthAll, Ex.dep]; omega
  | .dv a _ => by have := dep_p a; simp [Ex.p, PyData.depth, PyData.depthAll, Ex.dep]; omega
  | .md a _ => by have := dep_p a; simp [Ex.p, PyData.depth, PyData.depthAll, Ex.dep]; omega
theorem shaped_p (t : Ex) (hn : t.nk) (h : t.dep ≤ 60) : SeqAt.shaped t.p = true := by
  unfold SeqAt.shaped
  rw [can_p t hn, Bool.true_and, decide_eq_true_iff]
  have := dep_p t
  omega
/-- == of two trees -/
def word : Ex → Str
  | .num _ => "number"
  | .nam _ => "name"
  | .ad _ _ => "add"
  | .sb _ _ => "sub"
  | .tim _ _ => "times"
  | .dv _ _ => "div"
  | .md _ _ => "mod"
def kind : Ex → Nat
  | .num _ => 0
  | .nam _ => 1
  | .ad _ _ => 2
  | .sb _ _ => 3
  | .tim _ _ => 4
  | .dv _ _ => 5
  | .md _ _ => 6
def wd : Nat → Str
  | 0 => "number"
  | 1 => "name"
  | 2 => "add"
  | 3 => "sub"
  | 4 => "times"
  | 5 => "div"
  | _ => "mod"
theorem wd_inj : ∀ i j : Fin 7, wd i.val = wd j.val → i = j := by decide +kernel
theorem kind_lt (a : Ex) : kind a < 7 := by cases a <;> (show _ < 7; simp [kind])
theorem word_wd (a : Ex) : word a = wd (kind a) := by cases a <;> rfl
theorem word_kind (a b : Ex) (h : word a = word b) : kind a = kind b := by
  rw [word_wd, word_wd] at h
  have := wd_inj ⟨kind a, kind_lt a⟩ ⟨kind b, kind_lt b⟩ h
  exact congrArg Fin.val this
def rest : Ex → List PyData
  | .num i => [.int i]
  | .nam x => [.str x]
  | .ad a b => [a.p, b.p]
  | .sb a b => [a.p, b.p]
  | .tim k a => [.int k, a.p]
  | .dv a k => [a.p, .int k]
  | .md a k => [a.p, .int k]
theorem p_eq (t : Ex) : t.p = .tuple (.str (word t) :: rest t) := by cases t <;> rfl
theorem eqv_word (a b : Ex) : PyData.eqv a.p b.p = ((word a == word b) && PyData.eqvAll (rest a) (rest b)) := by
  rw [p_eq a, p_eq b]
  show PyData.eqvAll (.str (word a) :: rest a) (.str (word b) :: rest b) = _
  rw [PySem.W.eqv_all_cons]
  rfl
theorem eqv_ne {a b : Ex} (h : kind a ≠ kind b) : PyData.eqv a.p b.p = false := by
  rw [eqv_word]
  have : (word a == word b) = false := by
    rw [beq_eq_false_iff_ne]
    exact fun e => h (word_kind a b e)
  rw [this]
  rfl
theorem eqv_p : ∀ a b : Ex, PyData.eqv a.p b.p = true ↔ a = b := by
  intro a
  induction a with
  | num i =>
    intro b
    by_cases h : kind (.num i) = kind b
    · cases b with
      | num j => rw [eqv_word]; simp [word, rest, PyData.eqvAll, PyData.eqv]
      | _ => cases h
    · rw [eqv_ne h]; exact ⟨fun z => (by cases z), fun z => absurd (by rw [z]) h⟩
  | nam i =>
    intro b
    by_cases h : kind (.nam i) = kind b
    · cases b with
      | nam j => rw [eqv_word]; simp [word, rest, PyData.eqvAll, PyData.eqv]
      | _ => cases h
    · rw [eqv_ne h]; exact ⟨fun z => (by cases z), fun z => absurd (by rw [z]) h⟩
  | ad a1 a2 h1 h2 =>
    intro b
    by_cases h : kind (.ad a1 a2) = kind b
    · cases b with
      | ad j k => rw [eqv_word]; simp [word, rest, PyData.eqvAll, h1, h2]
      | _ => cases h
    · rw [eqv_ne h]; exact ⟨fun z => (by cases z), fun z => absurd (by rw [z]) h⟩
  | sb a1 a2 h1 h2 =>
    intro b
    by_cases h : kind (.sb a1 a2) = kind b
    · cases b with
      | sb j k => rw [eqv_word]; simp [word, rest, PyData.eqvAll, h1, h2]
      | _ => cases h
    · rw [eqv_ne h]; exact ⟨fun z => (by cases z), fun z => absurd (by rw [z]) h⟩
  | tim a1 a2 h2 =>
    intro b
    by_cases h : kind (.tim a1 a2) = kind b
    · cases b with
      | tim j k => rw [eqv_word]; simp [word, rest, PyData.eqvAll, h2, PyData.eqv]
      | _ => cases h
    · rw [eqv_ne h]; exact ⟨fun z => (by cases z), fun z => absurd (by rw [z]) h⟩
  | dv a1 a2 h2 =>
    intro b
    by_cases h : kind (.dv a1 a2) = kind b
    · cases b with
      | dv j k => rw [eqv_word]; simp [word, rest, PyData.eqvAll, h2, PyData.eqv]
      | _ => cases h
    · rw [eqv_ne h]; exact ⟨fun z => (by cases z), fun z => absurd (by rw [z]) h⟩
  | md a1 a2 h2 =>
    intro b
    by_cases h : kind (.md a1 a2) = kind b
    · cases b with
      | md j k => rw [eqv_word]; simp [word, rest, PyData.eqvAll, h2, PyData.eqv]
      | _ => cases h
    · rw [eqv_ne h]; exact ⟨fun z => (by cases z), fun z => absurd (by rw [z]) h⟩
theorem ltOk_word (a b : Ex) : ltOk a.p b.p = if (word a == word b) = true then ltOks (rest a) (rest b) else true := by
  rw [p_eq a, p_eq b]
  show ltOks (.str (word a) :: rest a) (.str (word b) :: rest b) = _
  rw [ltOks]
  rfl
theorem lt_p : ∀ a b : Ex, ltOk a.p b.p = true := by
  intro a
  induction a with
  | num i =>
    intro b
    rw [ltOk_word]
    split
    · rename_i e
      have h := word_kind _ _ (beq_iff_eq.mp e)
      cases b with
      | num j => simp [rest, ltOks, ltOk]
      | _ => cases h
    · rfl
  | nam i =>
    intro b
    rw [ltOk_word]
    split
    · rename_i e
      have h := word_kind _ _ (beq_iff_eq.mp e)
      cases b with
      | nam j => simp [rest, ltOks, ltOk]
      | _ => cases h
    · rfl
  | ad a1 a2 h1 h2 =>
    intro b
    rw [ltOk_word]
    split
    · rename_i e
      have h := word_kind _ _ (beq_iff_eq.mp e)
      cases b with
      | ad j k => simp [rest, ltOks, h1, h2]
      | _ => cases h
    · rfl
  | sb a1 a2 h1 h2 =>
    intro b
    rw [ltOk_word]
    split
    · rename_i e
      have h := word_kind _ _ (beq_iff_eq.mp e)
      cases b with
      | sb j k => simp [rest, ltOks, h1, h2]
      | _ => cases h
    · rfl
  | tim a1 a2 h2 =>
    intro b
    rw [ltOk_word]
    split
    · rename_i e
      have h := word_kind _ _ (beq_iff_eq.mp e)
      cases b with
      | tim j k => simp [rest, ltOks, h2, ltOk]
      | _ => cases h
    · rfl
  | dv a1 a2 h2 =>
    intro b
    rw [ltOk_word]
    split
    · rename_i e
      have h := word_kind _ _ (beq_iff_eq.mp e)
      cases b with
      | dv j k => simp [rest, ltOks, h2, ltOk]
      | _ => cases h
    · rfl
  | md a1 a2 h2 =>
    intro b
    rw [ltOk_word]
    split
    · rename_i e
      have h := word_kind _ _ (beq_iff_eq.mp e)
      cases b with
      | md j k => simp [rest, ltOks, h2, ltOk]
      | _ => cases h
    · rfl
end K74
set_option linter.all false
set_option maxRecDepth 100000
set_option maxHeartbeats 4000000
namespace K74
open PySem PySem.Spec PyProof.Rows L2 PD
@[simp] theorem l1 : f1.N.length = 1 := rfl
@[simp] theorem l2' : f2.N.length = 3 := rfl
def isL (d : D) (g : G) : Option Bool := match tyN d g with
  | some t => isAny t [.ty "list", .ty "tuple"]
  | none => none
theorem r1 (n : Nat) (d : D) (g : G) (b : Bool) (h : dIsi d (.tup [.ty "list", .ty "tuple"]) g = some b) : runF P.T (n + 1) 1 [d] g = .ok (.bl b) g := by
  apply eq_of_w
  rw [run_er (F := f1) rfl e1 rfl]
  have h' : dIsi d (.tup [.ty B.list.id, .ty B.tuple.id]) g = some b := h
  simp -implicitDefEqProofs [R.w, fin_w, b1, startD, sizeLine_eq, h']
theorem r2a (n : Nat) (d : D) (g : G) (w x : Str) (r : List D) (m : Int) (hw : PyData.strOk w = true) (hx : PyData.strOk x = true) (h : seqD d g = some (.str w :: r)) : runF P.T (n + 2) 2 [d, .str x, .int m] g = .ok (.bl (((r.length : Int) + 1 == m) && (w == x))) g := by
  apply eq_of_w
  rw [run_er (F := f2) rfl e2 rfl]
  have e := r1 n d g true (isls h)
  have h0 : ∀ {Q : D → G → Prop} {Ex : Str → Fs → G → Prop}, (dIdx d (.int 0) g).sat Q Ex = Q (.str w) g := fun {Q Ex} => ixs h rfl rfl
  have hs : dIsi (.str w) (.ty B.str.id) g = some true := rfl
  simp -implicitDefEqProofs [R.w, fin_w, b2, startD, sizeLine_eq, e, ok_w, lens h, h0, hs, eqS hw hx]
  split <;> simp_all
/-- not a list: no node -/
theorem r2n (n : Nat) (d x m : D) (g : G) (h : dIsi d (.tup [.ty "list", .ty "tuple"]) g = some false) : runF P.T (n + 2) 2 [d, x, m] g = .ok (.bl false) g := by
  apply eq_of_w
  rw [run_er (F := f2) rfl e2 rfl]
  have e := r1 n d g false h
  simp -implicitDefEqProofs [R.w, fin_w, b2, startD, sizeLine_eq, e, ok_w]
/-- another length: no node -/
theorem r2l (n : Nat) (d x : D) (g : G) (ds : List D) (m : Int) (h : seqD d g = some ds) (hm : ((ds.length : Int) == m) = false) : runF P.T (n + 2) 2 [d, x, .int m] g = .ok (.bl false) g := by
  apply eq_of_w
  rw [run_er (F := f2) rfl e2 rfl]
  have e := r1 n d g true (isls h)
  simp -implicitDefEqProofs [R.w, fin_w, b2, startD, sizeLine_eq, e, ok_w, lens h, hm]
end K74
namespace K74
open PySem PySem.Spec PyProof.Rows L2 PD
@[simp] theorem n0 : f0.N.length = 1 := rfl
@[simp] theorem n3 : f3.N.length = 2 := rfl
@[simp] theorem n4 : f4.N.length = 1 := rfl
@[simp] theorem n5 : f5.N.length = 1 := rfl
@[simp] theorem n6 : f6.N.length = 1 := rfl
/-- an integer, no truth value -/
theorem r0 (n : Nat) (d : D) (g : G) (a b : Bool) (h1 : dIsi d (.ty "int") g = some a) (h2 : dIsi d (.ty "bool") g = some b) : runF P.T (n + 1) 0 [d] g = .ok (.bl (a && !b)) g := by
  apply eq_of_w
  rw [run_er (F := f0) rfl e0 rfl]
  have h1' : dIsi d (.ty B.int.id) g = some a := h1
  have h2' : dIsi d (.ty B.bool.id) g = some b := h2
  simp -implicitDefEqProofs [R.w, fin_w, b0, startD, h1', h2']
  cases a <;> simp
theorem r0i (n : Nat) (i : Int) (g : G) : runF P.T (n + 1) 0 [.int i] g = .ok (.bl true) g := r0 n (.int i) g true false rfl rfl
/-- the kept form: e of d -/
theorem r3s (n : Nat) (d : D) (ds es : List D) (g : G) (hs : seqD d g = some ds) (hl : es.length = ds.length) (hb : ds.length < 1000000)
    (h : ∀ (i : Nat) (x y : D) (g1 : G), ds[i]? = some x → es[i]? = some y → Gr g g1 → (dIsi x (.tup [.ty "list", .ty "tuple"]) g1 = some false ∧ y = x) ∨ (dIsi x (.tup [.ty "list", .ty "tuple"]) g1 = some true ∧ (runF P.T (n + 1) 3 [x] g1).w fun y' g2 => y' = y ∧ Gr g1 g2)) :
    (runF P.T (n + 2) 3 [d] g).w fun y g' => y = .tup es ∧ Gr g g' := by
  rw [run_er (F := f3) rfl e3 rfl]
  simp only [R.w, fin_w, b3, startD, n3, x_cons, x_ret, w_blt, wa_cons, wa_nil]
  refine lc_w (d := d) es hl hb (by simp [startD]) hs rfl (fun i x y g1 hx hy gr => ?_) fun g' gr ha => ?_
  · refine ⟨[some d, some x], by simp [Tg.put, wipeD], ?_⟩
    rcases h i x y g1 hx hy gr with ⟨h1, rfl⟩ | ⟨h1, h2⟩
    · have e := r1 n y g1 false h1
      simp [R.w, e, ok_w, Gr.refl]
    · have e := r1 n x g1 true h1
      simp only [R.w, w_ife, u_call, wa_cons, wa_nil, w_call, w_var]
      simp [e, ok_w]
      exact h2
  · show (bltD .tuple [.ref g.length] g').sat _ _
    have : seqD (.ref g.length) g' = some es := by
      show (match g'[g.length]? with
        | some (.lst ds) => some ds
        | _ => none) = _
      rw [ha]
    show (match seqD (.ref g.length) g' with
      | some ds => R.ok (D.tup ds) g'
      | none => R.bad).sat _ _
    rw [this]
    exact ⟨rfl, gr⟩
end K74
set_option linter.all false
set_option maxRecDepth 100000
set_option maxHeartbeats 4000000
/-! k74: words; loose data; what is kept. -/
namespace K74
open PySem PySem.Spec PyProof.Rows L2 PD
@[simp] theorem ok_number : PyData.strOk "number" = true := by decide +kernel
@[simp] theorem q0 : (("number" : Str) == "name") = false := by decide +kernel
@[simp] theorem q1 : (("number" : Str) == "add") = false := by decide +kernel
@[simp] theorem q2 : (("number" : Str) == "sub") = false := by decide +kernel
@[simp] theorem q3 : (("number" : Str) == "times") = false := by decide +kernel
@[simp] theorem q4 : (("number" : Str) == "div") = false := by decide +kernel
@[simp] theorem q5 : (("number" : Str) == "mod") = false := by decide +kernel
@[simp] theorem q6 : (("number" : Str) == "lt") = false := by decide +kernel
@[simp] theorem q7 : (("number" : Str) == "le") = false := by decide +kernel
@[simp] theorem q8 : (("number" : Str) == "eq") = false := by decide +kernel
@[simp] theorem q9 : (("number" : Str) == "ne") = false := by decide +kernel
@[simp] theorem q10 : (("number" : Str) == "and") = false := by decide +kernel
@[simp] theorem q11 : (("number" : Str) == "or") = false := by decide +kernel
@[simp] theorem q12 : (("number" : Str) == "not") = false := by decide +kernel
@[simp] theorem ok_name : PyData.strOk "name" = true := by decide +kernel
@[simp] theorem q13 : (("name" : Str) == "number") = false := by decide +kernel
@[simp] theorem q14 : (("name" : Str) == "add") = false := by decide +kernel
@[simp] theorem q15 : (("name" : Str) == "sub") = false := by decide +kernel
@[simp] theorem q16 : (("name" : Str) == "times") = false := by decide +kernel
@[simp] theorem q17 : (("name" : Str) == "div") = false := by decide +kernel
@[simp] theorem q18 : (("name" : Str) == "mod") = false := by decide +kernel
@[simp] theorem q19 : (("name" : Str) == "lt") = false := by decide +kernel
@[simp] theorem q20 : (("name" : Str) == "le") = false := by decide +kernel
@[simp] theorem q21 : (("name" : Str) == "eq") = false := by decide +kernel
@[simp] theorem q22 : (("name" : Str) == "ne") = false := by decide +kernel
@[simp] theorem q23 : (("name" : Str) == "and") = false := by decide +kernel
@[simp] theorem q24 : (("name" : Str) == "or") = false := by decide +kernel
@[simp] theorem q25 : (("name" : Str) == "not") = false := by decide +kernel
@[simp] theorem ok_add : PyData.strOk "add" = true := by decide +kernel
@[simp] theorem q26 : (("add" : Str) == "number") = false := by decide +kernel
@[simp] theorem q27 : (("add" : Str) == "name") = false := by decide +kernel
@[simp] theorem q28 : (("add" : Str) == "sub") = false := by decide +kernel
@[simp] theorem q29 : (("add" : Str) == "times") = false := by decide +kernel
@[simp] theorem q30 : (("add" : Str) == "div") = false := by decide +kernel
@[simp] theorem q31 : (("add" : Str) == "mod") = false := by decide +kernel
@[simp] theorem q32 : (("add" : Str) == "lt") = false := by decide +kernel
@[simp] theorem q33 : (("add" : Str) == "le") = false := by decide +kernel
@[simp] theorem q34 : (("add" : Str) == "eq") = false := by decide +kernel
@[simp] theorem q35 : (("add" : Str) == "ne") = false := by decide +kernel
@[simp] theorem q36 : (("add" : Str) == "and") = false := by decide +kernel
@[simp] theorem q37 : (("add" : Str) == "or") = false := by decide +kernel
@[simp] theorem q38 : (("add" : Str) == "not") = false := by decide +kernel
@[simp] theorem ok_sub : PyData.strOk "sub" = true := by decide +kernel
@[simp] theorem q39 : (("sub" : Str) == "number") = false := by decide +kernel
@[simp] theorem q40 : (("sub" : Str) == "name") = false := by decide +kernel
@[simp] theorem q41 : (("sub" : Str) == "add") = false := by decide +kernel
@[simp] theorem q42 : (("sub" : Str) == "times") = false := by decide +kernel
@[simp] theorem q43 : (("sub" : Str) == "div") = false := by decide +kernel
@[simp] theorem q44 : (("sub" : Str) == "mod") = false := by decide +kernel
@[simp] theorem q45 : (("sub" : Str) == "lt") = false := by decide +kernel
@[simp] theorem q46 : (("sub" : Str) == "le") = false := by decide +kernel
@[simp] theorem q47 : (("sub" : Str) == "eq") = false := by decide +kernel
@[simp] theorem q48 : (("sub" : Str) == "ne") = false := by decide +kernel
@[simp] theorem q49 : (("sub" : Str) == "and") = false := by decide +kernel
@[simp] theorem q50 : (("sub" : Str) == "or") = false := by decide +kernel
@[simp] theorem q51 : (("sub" : Str) == "not") = false := by decide +kernel
@[simp] theorem ok_times : PyData.strOk "times" = true := by decide +kernel
@[simp] theorem q52 : (("times" : Str) == "number") = false := by decide +kernel
@[simp] theorem q53 : (("times" : Str) == "name") = false := by decide +kernel
@[simp] theorem q54 : (("times" : Str) == "add") = false := by decide +kernel
@[simp] theorem q55 : (("times" : Str) == "sub") = false := by decide +kernel
@[simp] theorem q56 : (("times" : Str) == "div") = false := by decide +kernel
@[simp] theorem q57 : (("times" : Str) == "mod") = false := by decide +kernel
@[simp] theorem q58 : (("times" : Str) == "lt") = false := by decide +kernel
@[simp] theorem q59 : (("times" : Str) == "le") = false := by decide +kernel
@[simp] theorem q60 : (("times" : Str) == "eq") = false := by decide +kernel
@[simp] theorem q61 : (("times" : Str) == "ne") = false := by decide +kernel
@[simp] theorem q62 : (("times" : Str) == "and") = false := by decide +kernel
@[simp] theorem q63 : (("times" : Str) == "or") = false := by decide +kernel
@[simp] theorem q64 : (("times" : Str) == "not") = false := by decide +kernel
@[simp] theorem ok_div : PyData.strOk "div" = true := by decide +kernel
@[simp] theorem q65 : (("div" : Str) == "number") = false := by decide +kernel
@[simp] theorem q66 : (("div" : Str) == "name") = false := by decide +kernel
@[simp] theorem q67 : (("div" : Str) == "add") = false := by decide +kernel
@[simp] theorem q68 : (("div" : Str) == "sub") = false := by decide +kernel
@[simp] theorem q69 : (("div" : Str) == "times") = false := by decide +kernel
@[simp] theorem q70 : (("div" : Str) == "mod") = false := by decide +kernel
@[simp] theorem q71 : (("div" : Str) == "lt") = false := by decide +kernel
@[simp] theorem q72 : (("div" : Str) == "le") = false := by decide +kernel
@[simp] theorem q73 : (("div" : Str) == "eq") = false := by decide +kernel
@[simp] theorem q74 : (("div" : Str) == "ne") = false := by decide +kernel
@[simp] theorem q75 : (("div" : Str) == "and") = false := by decide +kernel
@[simp] theorem q76 : (("div" : Str) == "or") = false := by decide +kernel
@[simp] theorem q77 : (("div" : Str) == "not") = false := by decide +kernel
@[simp] theorem ok_mod : PyData.strOk "mod" = true := by decide +kernel
@[simp] theorem q78 : (("mod" : Str) == "number") = false := by decide +kernel
@[simp] theorem q79 : (("mod" : Str) == "name") = false := by decide +kernel
@[simp] theorem q80 : (("mod" : Str) == "add") = false := by decide +kernel
@[simp] theorem q81 : (("mod" : Str) == "sub") = false := by decide +kernel
@[simp] theorem q82 : (("mod" : Str) == "times") = false := by decide +kernel
@[simp] theorem q83 : (("mod" : Str) == "div") = false := by decide +kernel
@[simp] theorem q84 : (("mod" : Str) == "lt") = false := by decide +kernel
@[simp] theorem q85 : (("mod" : Str) == "le") = false := by decide +kernel
@[simp] theorem q86 : (("mod" : Str) == "eq") = false := by decide +kernel
@[simp] theorem q87 : (("mod" : Str) == "ne") = false := by decide +kernel
@[simp] theorem q88 : (("mod" : Str) == "and") = false := by decide +kernel
@[simp] theorem q89 : (("mod" : Str) == "or") = false := by decide +kernel
@[simp] theorem q90 : (("mod" : Str) == "not") = false := by decide +kernel
@[simp] theorem ok_lt : PyData.strOk "lt" = true := by decide +kernel
@[simp] theorem q91 : (("lt" : Str) == "number") = false := by decide +kernel
@[simp] theorem q92 : (("lt" : Str) == "name") = false := by decide +kernel
@[simp] theorem q93 : (("lt" : Str) == "add") = false := by decide +kernel
@[simp] theorem q94 : (("lt" : Str) == "sub") = false := by decide +kernel
@[simp] theorem q95 : (("lt" : Str) == "times") = false := by decide +kernel
@[simp] theorem q96 : (("lt" : Str) == "div") = false := by decide +kernel
@[simp] theorem q97 : (("lt" : Str) == "mod") = false := by decide +kernel
@[simp] theorem q98 : (("lt" : Str) == "le") = false := by decide +kernel
@[simp] theorem q99 : (("lt" : Str) == "eq") = false := by decide +kernel
@[simp] theorem q100 : (("lt" : Str) == "ne") = false := by decide +kernel
@[simp] theorem q101 : (("lt" : Str) == "and") = false := by decide +kernel
@[simp] theorem q102 : (("lt" : Str) == "or") = false := by decide +kernel
@[simp] theorem q103 : (("lt" : Str) == "not") = false := by decide +kernel
@[simp] theorem ok_le : PyData.strOk "le" = true := by decide +kernel
@[simp] theorem q104 : (("le" : Str) == "number") = false := by decide +kernel
@[simp] theorem q105 : (("le" : Str) == "name") = false := by decide +kernel
@[simp] theorem q106 : (("le" : Str) == "add") = false := by decide +kernel
@[simp] theorem q107 : (("le" : Str) == "sub") = false := by decide +kernel
@[simp] theorem q108 : (("le" : Str) == "times") = false := by decide +kernel
@[simp] theorem q109 : (("le" : Str) == "div") = false := by decide +kernel
@[simp] theorem q110 : (("le" : Str) == "mod") = false := by decide +kernel
@[simp] theorem q111 : (("le" : Str) == "lt") = false := by decide +kernel
@[simp] theorem q112 : (("le" : Str) == "eq") = false := by decide +kernel
@[simp] theorem q113 : (("le" : Str) == "ne") = false := by decide +kernel
@[simp] theorem q114 : (("le" : Str) == "and") = false := by decide +kernel
@[simp] theorem q115 : (("le" : Str) == "or") = false := by decide +kernel
@[simp] theorem q116 : (("le" : Str) == "not") = false := by decide +kernel
@[simp] theorem ok_eq : PyData.strOk "eq" = true := by decide +kernel
@[simp] theorem q117 : (("eq" : Str) == "number") = false := by decide +kernel
@[simp] theorem q118 : (("eq" : Str) == "name") = false := by decide +kernel
@[simp] theorem q119 : (("eq" : Str) == "add") = false := by decide +kernel
@[simp] theorem q120 : (("eq" : Str) == "sub") = false := by decide +kernel
@[simp] theorem q121 : (("eq" : Str) == "times") = false := by decide +kernel
@[simp] theorem q122 : (("eq" : Str) == "div") = false := by decide +kernel
@[simp] theorem q123 : (("eq" : Str) == "mod") = false := by decide +kernel
@[simp] theorem q124 : (("eq" : Str) == "lt") = false := by decide +kernel
@[simp] theorem q125 : (("eq" : Str) == "le") = false := by decide +kernel
@[simp] theorem q126 : (("eq" : Str) == "ne") = false := by decide +kernel
@[simp] theorem q127 : (("eq" : Str) == "and") = false := by decide +kernel
@[simp] theorem q128 : (("eq" : Str) == "or") = false := by decide +kernel
@[simp] theorem q129 : (("eq" : Str) == "not") = false := by decide +kernel
@[simp] theorem ok_ne : PyData.strOk "ne" = true := by decide +kernel
@[simp] theorem q130 : (("ne" : Str) == "number") = false := by decide +kernel
@[simp] theorem q131 : (("ne" : Str) == "name") = false := by decide +kernel
@[simp] theorem q132 : (("ne" : Str) == "add") = false := by decide +kernel
@[simp] theorem q133 : (("ne" : Str) == "sub") = false := by decide +kernel
@[simp] theorem q134 : (("ne" : Str) == "times") = false := by decide +kernel
@[simp] theorem q135 : (("ne" : Str) == "div") = false := by decide +kernel
@[simp] theorem q136 : (("ne" : Str) == "mod") = false := by decide +kernel
@[simp] theorem q137 : (("ne" : Str) == "lt") = false := by decide +kernel
@[simp] theorem q138 : (("ne" : Str) == "le") = false := by decide +kernel
@[simp] theorem q139 : (("ne" : Str) == "eq") = false := by decide +kernel
@[simp] theorem q140 : (("ne" : Str) == "and") = false := by decide +kernel
@[simp] theorem q141 : (("ne" : Str) == "or") = false := by decide +kernel
@[simp] theorem q142 : (("ne" : Str) == "not") = false := by decide +kernel
@[simp] theorem ok_and : PyData.strOk "and" = true := by decide +kernel
@[simp] theorem q143 : (("and" : Str) == "number") = false := by decide +kernel
@[simp] theorem q144 : (("and" : Str) == "name") = false := by decide +kernel
@[simp] theorem q145 : (("and" : Str) == "add") = false := by decide +kernel
@[simp] theorem q146 : (("and" : Str) == "sub") = false := by decide +kernel
@[simp] theorem q147 : (("and" : Str) == "times") = false := by decide +kernel
@[simp] theorem q148 : (("and" : Str) == "div") = false := by decide +kernel
@[simp] theorem q149 : (("and" : Str) == "mod") = false := by decide +kernel
@[simp] theorem q150 : (("and" : Str) == "lt") = false := by decide +kernel
@[simp] theorem q151 : (("and" : Str) == "le") = false := by decide +kernel
@[simp] theorem q152 : (("and" : Str) == "eq") = false := by decide +kernel
@[simp] theorem q153 : (("and" : Str) == "ne") = false := by decide +kernel
@[simp] theorem q154 : (("and" : Str) == "or") = false := by decide +kernel
@[simp] theorem q155 : (("and" : Str) == "not") = false := by decide +kernel
@[simp] theorem ok_or : PyData.strOk "or" = true := by decide +kernel
@[simp] theorem q156 : (("or" : Str) == "number") = false := by decide +kernel
@[simp] theorem q157 : (("or" : Str) == "name") = false := by decide +kernel
@[simp] theorem q158 : (("or" : Str) == "add") = false := by decide +kernel
@[simp] theorem q159 : (("or" : Str) == "sub") = false := by decide +kernel
@[simp] theorem q160 : (("or" : Str) == "times") = false := by decide +kernel
@[simp] theorem q161 : (("or" : Str) == "div") = false := by decide +kernel
@[simp] theorem q162 : (("or" : Str) == "mod") = false := by decide +kernel
@[simp] theorem q163 : (("or" : Str) == "lt") = false := by decide +kernel
@[simp] theorem q164 : (("or" : Str) == "le") = false := by decide +kernel
@[simp] theorem q165 : (("or" : Str) == "eq") = false := by decide +kernel
@[simp] theorem q166 : (("or" : Str) == "ne") = false := by decide +kernel
@[simp] theorem q167 : (("or" : Str) == "and") = false := by decide +kernel
@[simp] theorem q168 : (("or" : Str) == "not") = false := by decide +kernel
@[simp] theorem ok_not : PyData.strOk "not" = true := by decide +kernel
@[simp] theorem q169 : (("not" : Str) == "number") = false := by decide +kernel
@[simp] theorem q170 : (("not" : Str) == "name") = false := by decide +kernel
@[simp] theorem q171 : (("not" : Str) == "add") = false := by decide +kernel
@[simp] theorem q172 : (("not" : Str) == "sub") = false := by decide +kernel
@[simp] theorem q173 : (("not" : Str) == "times") = false := by decide +kernel
@[simp] theorem q174 : (("not" : Str) == "div") = false := by decide +kernel
@[simp] theorem q175 : (("not" : Str) == "mod") = false := by decide +kernel
@[simp] theorem q176 : (("not" : Str) == "lt") = false := by decide +kernel
@[simp] theorem q177 : (("not" : Str) == "le") = false := by decide +kernel
@[simp] theorem q178 : (("not" : Str) == "eq") = false := by decide +kernel
@[simp] theorem q179 : (("not" : Str) == "ne") = false := by decide +kernel
@[simp] theorem q180 : (("not" : Str) == "and") = false := by decide +kernel
@[simp] theorem q181 : (("not" : Str) == "or") = false := by decide +kernel
def atomB : D → Bool
  | .int _ => true
  | .str _ => true
  | .bl _ => true
  | .non => true
  | _ => false
theorem atom_no {d : D} (h : atomB d = true) (g : G) : dIsi d (.tup [.ty "list", .ty "tuple"]) g = some false ∧ seqD d g = none := by
  cases d <;> first | exact ⟨rfl, rfl⟩ | cases h
/-- d stands for e: lists and tuples alike -/
inductive Lz (g : G) : Nat → D → D → Prop
  | atom {k : Nat} {d : D} : atomB d = true → Lz g k d d
  | seq {k : Nat} {d : D} {ds es : List D} : seqD d g = some ds → es.length = ds.length → ds.length < 1000 → (∀ (i : Nat) (x y : D), ds[i]? = some x → es[i]? = some y → Lz g k x y) → Lz g (k + 1) d (.tup es)
theorem Lz.gr {g g' : G} (h : Gr g g') {k : Nat} {d e : D} (r : Lz g k d e) : Lz g' k d e := by
  induction r with
  | atom h1 => exact .atom h1
  | seq h1 h2 h3 _ ih => exact .seq (h.seq h1) h2 h3 ih
theorem Lz.up {g : G} {k j : Nat} {d e : D} (r : Lz g k d e) (h : k ≤ j) : Lz g j d e := by
  induction r generalizing j with
  | atom h1 => exact .atom h1
  | @seq k d ds es h1 h2 h3 _ ih =>
    obtain ⟨m, rfl⟩ : ∃ m, j = m + 1 := ⟨j - 1, by omega⟩
    exact .seq h1 h2 h3 fun i x y hx hy => ih i x y hx hy (by omega)
theorem Lz.inv {g : G} {k : Nat} {d : D} {es : List D} (r : Lz g k d (.tup es)) : ∃ j ds, k = j + 1 ∧ seqD d g = some ds ∧ es.length = ds.length ∧ ds.length < 1000 ∧ ∀ (i : Nat) (x y : D), ds[i]? = some x → es[i]? = some y → Lz g j x y := by
  cases r with
  | atom h => cases h
  | seq h1 h2 h3 h4 => exact ⟨_, _, rfl, h1, h2, h3, h4⟩
theorem Lz.at_ {g : G} {k : Nat} {d e : D} (r : Lz g k d e) (h : atomB e = true) : d = e := by
  cases r with
  | atom _ => rfl
  | seq _ _ _ _ => cases h
theorem Lz.three {g : G} {k : Nat} {d a b : D} {w : Str} (r : Lz g k d (.tup [.str w, a, b])) : ∃ j x y, k = j + 1 ∧ seqD d g = some [.str w, x, y] ∧ Lz g j x a ∧ Lz g j y b := by
  obtain ⟨j, ds, rfl, h1, h2, h3, h4⟩ := r.inv
  match ds, h1, h2, h4 with
  | [u, x, y], h1, _, h4 =>
    have e := (h4 0 u (.str w) rfl rfl).at_ rfl
    subst e
    exact ⟨j, x, y, rfl, h1, h4 1 x a rfl rfl, h4 2 y b rfl rfl⟩
  | [], _, h2, _ => exact absurd h2 (by simp)
  | [_], _, h2, _ => exact absurd h2 (by simp)
  | [_, _], _, h2, _ => exact absurd h2 (by simp)
  | _ :: _ :: _ :: _ :: _, _, h2, _ => exact absurd h2 (by simp)
theorem Lz.two {g : G} {k : Nat} {d a : D} {w : Str} (r : Lz g k d (.tup [.str w, a])) : ∃ j x, k = j + 1 ∧ seqD d g = some [.str w, x] ∧ Lz g j x a := by
  obtain ⟨j, ds, rfl, h1, h2, h3, h4⟩ := r.inv
  match ds, h1, h2, h4 with
  | [u, x], h1, _, h4 =>
    have e := (h4 0 u (.str w) rfl rfl).at_ rfl
    subst e
    exact ⟨j, x, rfl, h1, h4 1 x a rfl rfl⟩
  | [], _, h2, _ => exact absurd h2 (by simp)
  | [_], _, h2, _ => exact absurd h2 (by simp)
  | _ :: _ :: _ :: _, _, h2, _ => exact absurd h2 (by simp)
theorem lz2 {g : G} {k : Nat} {w : Str} {a b : D} (h : Lz g k a b) : Lz g (k + 1) (.tup [.str w, a]) (.tup [.str w, b]) :=
  .seq (ds := [.str w, a]) rfl rfl (by show 2 < 1000; omega) fun i x y hx hy => by
    match i, hx, hy with
    | 0, hx, hy => cases hx; cases hy; exact .atom rfl
    | 1, hx, hy => cases hx; cases hy; exact h
theorem lz3 {g : G} {k : Nat} {w : Str} {a b c d : D} (h : Lz g k a b) (h2 : Lz g k c d) : Lz g (k + 1) (.tup [.str w, a, c]) (.tup [.str w, b, d]) :=
  .seq (ds := [.str w, a, c]) rfl rfl (by show 3 < 1000; omega) fun i x y hx hy => by
    match i, hx, hy with
    | 0, hx, hy => cases hx; cases hy; exact .atom rfl
    | 1, hx, hy => cases hx; cases hy; exact h
    | 2, hx, hy => cases hx; cases hy; exact h2
/-- a tree stands for itself -/
theorem lz_d (g : G) : ∀ t : Ex, Lz g t.dep t.d t.d
  | .num i => lz2 (.atom rfl)
  | .nam x => lz2 (.atom rfl)
  | .ad a b => lz3 ((lz_d g a).up (Nat.le_max_left _ _)) ((lz_d g b).up (Nat.le_max_right _ _))
  | .sb a b => lz3 ((lz_d g a).up (Nat.le_max_left _ _)) ((lz_d g b).up (Nat.le_max_right _ _))
  | .tim k a => lz3 (.atom rfl) (lz_d g a)
  | .dv a k => lz3 (lz_d g a) (.atom rfl)
  | .md a k => lz3 (lz_d g a) (.atom rfl)
/-- what is kept of it -/
theorem r3 : ∀ (k : Nat) (d : D) (es : List D) (g : G) (n : Nat), Lz g k d (.tup es) → (runF P.T (n + k + 1) 3 [d] g).w fun y g' => y = .tup es ∧ Gr g g'
  | 0, d, es, g, n, h => by obtain ⟨_, _, z, _⟩ := h.inv; omega
  | k + 1, d, es, g, n, h => by
    obtain ⟨j, ds, e, h1, h2, h3, h4⟩ := h.inv
    have e : k = j := by omega
    subst e
    refine r3s (n + k) d ds es g h1 h2 (by omega) fun i x y g1 hx hy gr => ?_
    have hz := (h4 i x y hx hy).gr gr
    cases hz with
    | atom ha => exact .inl ⟨(atom_no ha g1).1, rfl⟩
    | @seq k' _ ds' es' b1 b2 b3 b4 =>
      refine .inr ⟨isls b1, ?_⟩
      have := r3 (k' + 1) x es' g1 n (.seq b1 b2 b3 b4)
      exact this
end K74
set_option linter.all false
set_option maxRecDepth 100000
set_option maxHeartbeats 4000000
/-! k74: what counts as an expression over texts. -/
namespace K74
open PySem PySem.Spec PyProof.Rows L2 PD
/-- the divisors are 1 or more -/
def Ex.dvs : Ex → Prop
  | .num _ => True
  | .nam _ => True
  | .ad a b => a.dvs ∧ b.dvs
  | .sb a b => a.dvs ∧ b.dvs
  | .tim _ a => a.dvs
  | .dv a k => a.dvs ∧ 1 ≤ k
  | .md a k => a.dvs ∧ 1 ≤ k
theorem i1_ {d u x : D} {r : List D} {g : G} (hs : seqD d g = some (u :: x :: r)) {Q : D → G → Prop} {Ex : Str → Fs → G → Prop} : (dIdx d (.int 1) g).sat Q Ex = Q x g := ixs (k := 1) hs rfl rfl
theorem i2_ {d u x y : D} {r : List D} {g : G} (hs : seqD d g = some (u :: x :: y :: r)) {Q : D → G → Prop} {Ex : Str → Fs → G → Prop} : (dIdx d (.int 2) g).sat Q Ex = Q y g := ixs (k := 2) hs rfl rfl
theorem r5_number (n : Nat) (d : D) (g : G) (i : Int) (hs : seqD d g = some [.str "number", .int i])  : runF P.T (n + 3) 5 [d] g = .ok (.bl true) g := by
  apply eq_of_w
  rw [show n + 3 = (n + 2) + 1 from rfl, run_er (F := f5) rfl e5 rfl]
  have a2 := fun x hx (m : Int) => r2a n d g "number" x _ m ok_number hx hs
  have c0 := fun i => r0i (n + 1) i g
  simp -implicitDefEqProofs [R.w, fin_w, b5, startD, sizeLine_eq, a2, i1_ hs, c0, ok_w]
theorem r5_name (n : Nat) (d : D) (g : G) (i : Str) (hs : seqD d g = some [.str "name", .str i])  : runF P.T (n + 3) 5 [d] g = .ok (.bl true) g := by
  apply eq_of_w
  rw [show n + 3 = (n + 2) + 1 from rfl, run_er (F := f5) rfl e5 rfl]
  have a2 := fun x hx (m : Int) => r2a n d g "name" x _ m ok_name hx hs
  have hi : dIsi (.str i) (.ty B.str.id) g = some true := rfl
  simp -implicitDefEqProofs [R.w, fin_w, b5, startD, sizeLine_eq, a2, i1_ hs, hi, ok_w]
theorem r5_add (n : Nat) (d : D) (g : G) (x y : D) (hs : seqD d g = some [.str "add", x, y]) (h1 : runF P.T (n + 2) 5 [x] g = .ok (.bl true) g) (h2 : runF P.T (n + 2) 5 [y] g = .ok (.bl true) g) : runF P.T (n + 3) 5 [d] g = .ok (.bl true) g := by
  apply eq_of_w
  rw [show n + 3 = (n + 2) + 1 from rfl, run_er (F := f5) rfl e5 rfl]
  have a2 := fun x hx (m : Int) => r2a n d g "add" x _ m ok_add hx hs
  
  simp -implicitDefEqProofs [R.w, fin_w, b5, startD, sizeLine_eq, a2, i1_ hs, i2_ hs, h1, h2, ok_w]
theorem r5_sub (n : Nat) (d : D) (g : G) (x y : D) (hs : seqD d g = some [.str "sub", x, y]) (h1 : runF P.T (n + 2) 5 [x] g = .ok (.bl true) g) (h2 : runF P.T (n + 2) 5 [y] g = .ok (.bl true) g) : runF P.T (n + 3) 5 [d] g = .ok (.bl true) g := by
  apply eq_of_w
  rw [show n + 3 = (n + 2) + 1 from rfl, run_er (F := f5) rfl e5 rfl]
  have a2 := fun x hx (m : Int) => r2a n d g "sub" x _ m ok_sub hx hs
  
  simp -implicitDefEqProofs [R.w, fin_w, b5, startD, sizeLine_eq, a2, i1_ hs, i2_ hs, h1, h2, ok_w]
theorem r5_times (n : Nat) (d : D) (g : G) (c : Int) (y : D) (hs : seqD d g = some [.str "times", .int c, y]) (h2 : runF P.T (n + 2) 5 [y] g = .ok (.bl true) g) : runF P.T (n + 3) 5 [d] g = .ok (.bl true) g := by
  apply eq_of_w
  rw [show n + 3 = (n + 2) + 1 from rfl, run_er (F := f5) rfl e5 rfl]
  have a2 := fun x hx (m : Int) => r2a n d g "times" x _ m ok_times hx hs
  have c0 := fun i => r0i (n + 1) i g
  simp -implicitDefEqProofs [R.w, fin_w, b5, startD, sizeLine_eq, a2, i1_ hs, i2_ hs, c0, h2, ok_w]
theorem r5_div (n : Nat) (d : D) (g : G) (x : D) (c : Int) (hs : seqD d g = some [.str "div", x, .int c]) (h1 : runF P.T (n + 2) 5 [x] g = .ok (.bl true) g) (hc : 1 ≤ c) : runF P.T (n + 3) 5 [d] g = .ok (.bl true) g := by
  apply eq_of_w
  rw [show n + 3 = (n + 2) + 1 from rfl, run_er (F := f5) rfl e5 rfl]
  have a2 := fun x hx (m : Int) => r2a n d g "div" x _ m ok_div hx hs
  have c0 := fun i => r0i (n + 1) i g
  simp -implicitDefEqProofs [R.w, fin_w, b5, startD, sizeLine_eq, a2, i1_ hs, i2_ hs, c0, h1, hc, ok_w]
theorem r5_mod (n : Nat) (d : D) (g : G) (x : D) (c : Int) (hs : seqD d g = some [.str "mod", x, .int c]) (h1 : runF P.T (n + 2) 5 [x] g = .ok (.bl true) g) (hc : 1 ≤ c) : runF P.T (n + 3) 5 [d] g = .ok (.bl true) g := by
  apply eq_of_w
  rw [show n + 3 = (n + 2) + 1 from rfl, run_er (F := f5) rfl e5 rfl]
  have a2 := fun x hx (m : Int) => r2a n d g "mod" x _ m ok_mod hx hs
  have c0 := fun i => r0i (n + 1) i g
  simp -implicitDefEqProofs [R.w, fin_w, b5, startD, sizeLine_eq, a2, i1_ hs, i2_ hs, c0, h1, hc, ok_w]
theorem r5 : ∀ (t : Ex) (k : Nat) (d : D) (g : G) (n : Nat), t.dvs → Lz g k d t.d → runF P.T (n + t.dep + 2) 5 [d] g = .ok (.bl true) g := by
  intro t
  induction t with
  | num i =>
    intro k d g n _ h
    obtain ⟨j, x, _, hs, hx⟩ := h.two
    cases hx.at_ rfl
    exact r5_number n d g i hs
  | nam i =>
    intro k d g n _ h
    obtain ⟨j, x, _, hs, hx⟩ := h.two
    cases hx.at_ rfl
    exact r5_name n d g i hs
  | ad a b ha hb =>
    intro k d g n hd h
    obtain ⟨j, x, y, _, hs, hx, hy⟩ := h.three
    have c1 := ha j x g (n + max a.dep b.dep - a.dep) hd.1 hx
    have c2 := hb j y g (n + max a.dep b.dep - b.dep) hd.2 hy
    rw [show n + max a.dep b.dep - a.dep + a.dep + 2 = n + max a.dep b.dep + 2 from by omega] at c1
    rw [show n + max a.dep b.dep - b.dep + b.dep + 2 = n + max a.dep b.dep + 2 from by omega] at c2
    exact r5_add (n + max a.dep b.dep) d g x y hs c1 c2
  | sb a b ha hb =>
    intro k d g n hd h
    obtain ⟨j, x, y, _, hs, hx, hy⟩ := h.three
    have c1 := ha j x g (n + max a.dep b.dep - a.dep) hd.1 hx
    have c2 := hb j y g (n + max a.dep b.dep - b.dep) hd.2 hy
    rw [show n + max a.dep b.dep - a.dep + a.dep + 2 = n + max a.dep b.dep + 2 from by omega] at c1
    rw [show n + max a.dep b.dep - b.dep + b.dep + 2 = n + max a.dep b.dep + 2 from by omega] at c2
    exact r5_sub (n + max a.dep b.dep) d g x y hs c1 c2
  | tim c a ha =>
    intro k d g n hd h
    obtain ⟨j, x, y, _, hs, hx, hy⟩ := h.three
    cases hx.at_ rfl
    exact r5_times (n + a.dep) d g c y hs (ha j y g n hd hy)
  | dv a c ha =>
    intro k d g n hd h
    obtain ⟨j, x, y, _, hs, hx, hy⟩ := h.three
    cases hy.at_ rfl
    exact r5_div (n + a.dep) d g x c hs (ha j x g n hd.1 hx) hd.2
  | md a c ha =>
    intro k d g n hd h
    obtain ⟨j, x, y, _, hs, hx, hy⟩ := h.three
    cases hy.at_ rfl
    exact r5_mod (n + a.dep) d g x c hs (ha j x g n hd.1 hx) hd.2
theorem two_le (t : Ex) : 1 ≤ t.dep := by cases t <;> simp [Ex.dep]
theorem Lz.top {g : G} {k : Nat} {d : D} (t : Ex) (h : Lz g k d t.d) : ∃ es, t.d = .tup es := by cases t <;> exact ⟨_, rfl⟩
/-- the expression's kept form is the tree -/
theorem r6 (t : Ex) (k : Nat) (d : D) (g : G) (n : Nat) (hd : t.dvs) (h : Lz g k d t.d) (hn : t.dep + 3 ≤ n) (hn2 : k + 2 ≤ n) : (runF P.T n 6 [d] g).w fun y g' => y = t.d ∧ Gr g g' := by
  obtain ⟨m, rfl⟩ : ∃ m, n = m + 1 := ⟨n - 1, by omega⟩
  rw [run_er (F := f6) rfl e6 rfl]
  have c5 := r5 t k d g (m - t.dep - 2) hd h
  rw [show m - t.dep - 2 + t.dep + 2 = m from by omega] at c5
  obtain ⟨es, he⟩ := h.top
  have c3 := r3 k d es g (m - k - 1) (he ▸ h)
  rw [show m - k - 1 + k + 1 = m from by omega] at c3
  simp -implicitDefEqProofs [R.w, fin_w, b6, startD, c5, ok_w]
  rw [he]
  exact c3
end K74
set_option linter.all false
set_option maxRecDepth 100000
set_option maxHeartbeats 4000000
/-! k74: gathering the pieces of a sum. -/
namespace K74
open PySem PySem.Spec PyProof.Rows L2 PD
def Ex.mag : Ex → Nat
  | .num i => max 1 i.natAbs
  | .nam _ => 1
  | .ad a b => a.mag + b.mag
  | .sb a b => a.mag + b.mag
  | .tim k a => max 1 k.natAbs * a.mag
  | .dv a _ => a.mag
  | .md a k => max a.mag k.natAbs
theorem mag1 (t : Ex) : 1 ≤ t.mag := by
  induction t with
  | num i => exact Nat.le_max_left _ _
  | nam x => exact Nat.le_refl _
  | ad a b ha hb => show 1 ≤ a.mag + b.mag; omega
  | sb a b ha hb => show 1 ≤ a.mag + b.mag; omega
  | tim k a ha => exact Nat.mul_pos (Nat.lt_of_lt_of_le Nat.zero_lt_one (Nat.le_max_left _ _)) ha
  | dv a k ha => exact ha
  | md a k ha => exact Nat.le_trans ha (Nat.le_max_left _ _)
/-- the pieces, each with its times -/
def ga : Ex → Int → Int × List (Ex × Int)
  | .num i, m => (m * i, [])
  | .tim k a, m => ga a (m * k)
  | .ad a b, m => ((ga a m).1 + (ga b m).1, (ga a m).2 ++ (ga b m).2)
  | .sb a b, m => ((ga a m).1 + (ga b (-m)).1, (ga a m).2 ++ (ga b (-m)).2)
  | .nam x, m => (0, [(.nam x, m)])
  | .dv a k, m => (0, [(.dv a k, m)])
  | .md a k, m => (0, [(.md a k, m)])
def prD (q : Ex × Int) : D := .tup [q.1.d, .int q.2]
def Ex.lv : Ex → Nat
  | .num _ => 1
  | .nam _ => 1
  | .ad a b => a.lv + b.lv
  | .sb a b => a.lv + b.lv
  | .tim _ a => a.lv
  | .dv _ _ => 1
  | .md _ _ => 1
theorem ga_len : ∀ (t : Ex) (m : Int), (ga t m).2.length ≤ t.lv := by
  intro t
  induction t with
  | num i => intro m; simp [ga, Ex.lv]
  | nam x => intro m; simp [ga, Ex.lv]
  | ad a b ha hb => intro m; have := ha m; have := hb m; simp [ga, Ex.lv]; omega
  | sb a b ha hb => intro m; have := ha m; have := hb (-m); simp [ga, Ex.lv]; omega
  | tim k a ha => intro m; exact ha (m * k)
  | dv a k ha => intro m; simp [ga, Ex.lv]
  | md a k ha => intro m; simp [ga, Ex.lv]
theorem mulOk_of {i j : Int} (h : i.natAbs < 2 ^ 64) : mulOk i j = true := by
  unfold mulOk
  rw [decide_eq_true h]
  rfl
@[simp] theorem n7 : f7.N.length = 5 := rfl
theorem in2 {x a b : Str} {g : G} {Q : D → G → Prop} {Ex : Str → Fs → G → Prop} : (cmpD .In (.str x) (.tup [.str a, .str b]) g).sat Q Ex = Q (.bl (a == x || (b == x || false))) g := inS (ys := [a, b])
theorem app_w {k : Nat} {L : List D} {y : D} {g : G} {Q : D → G → Prop} {Ex : Str → Fs → G → Prop} (h : g[k]? = some (.lst L)) (hl : L.length < 1000000) : (mthD .append (.ref k) [y] g).sat Q Ex = Q .non (g.set k (.lst (L ++ [y]))) := by
  show (dApp (.ref k) y g).sat Q Ex = _
  have e : lstAt (.ref k) g = some (k, L) := by
    show (match g[k]? with
      | some (.lst ds) => some (k, ds)
      | _ => none) = _
    rw [h]
  unfold dApp
  rw [e]
  show (if L.length < sizeLine then R.ok D.non (g.set k (.lst (L ++ [y]))) else .bad).sat Q Ex = _
  rw [if_pos (by rw [sizeLine_eq]; omega)]
  rfl
theorem isl_ref {k : Nat} {L : List D} {g : G} (h : g[k]? = some (.lst L)) : isLst (.ref k) g = true := by
  show (match g[k]? with
    | some (.lst _) => true
    | _ => false) = true
  rw [h]
theorem set_same {g : G} {k : Nat} {o : DO} (h : g[k]? = some o) : g.set k o = g := by
  have hk := (List.getElem?_eq_some_iff.mp h).1
  apply List.ext_getElem? 
  intro i
  by_cases e : i = k
  · subst e; rw [List.getElem?_set_self hk, h]
  · rw [List.getElem?_set_ne (by omega)]
theorem r7_num (n : Nat) (i m : Int) (k : Nat) (g : G) (hm : m.natAbs < 2 ^ 64) : runF P.T (n + 1) 7 [(Ex.num i).d, .int m, .ref k] g = .ok (.int (m * i)) g := by
  apply eq_of_w
  rw [run_er (F := f7) rfl e7 rfl]
  simp -implicitDefEqProofs [R.w, fin_w, b7, startD, n7, Ex.d, sizeLine_eq, eqS ok_number ok_number, mulOk_of hm]
theorem r7_tim (n : Nat) (i m : Int) (a : D) (k : Nat) (g : G) (hm : m.natAbs < 2 ^ 64) {r : D} {g' : G} (h : runF P.T n 7 [a, .int (m * i), .ref k] g = .ok r g') : runF P.T (n + 1) 7 [.tup [.str "times", .int i, a], .int m, .ref k] g = .ok r g' := by
  apply eq_of_w
  rw [run_er (F := f7) rfl e7 rfl]
  simp -implicitDefEqProofs [R.w, fin_w, b7, startD, n7, sizeLine_eq, eqS ok_times ok_number, eqS ok_times ok_times, mulOk_of hm, h, ok_w]
theorem r7_add (n : Nat) (m u v : Int) (a b : D) (k : Nat) (g g1 g2 : G) (h1 : runF P.T n 7 [a, .int m, .ref k] g = .ok (.int u) g1) (h2 : runF P.T n 7 [b, .int m, .ref k] g1 = .ok (.int v) g2) : runF P.T (n + 1) 7 [.tup [.str "add", a, b], .int m, .ref k] g = .ok (.int (u + v)) g2 := by
  apply eq_of_w
  rw [run_er (F := f7) rfl e7 rfl]
  simp -implicitDefEqProofs [R.w, fin_w, b7, startD, n7, sizeLine_eq, eqS ok_add ok_number, eqS ok_add ok_times, eqS ok_add ok_add, in2, h1, h2, ok_w]
theorem r7_sub (n : Nat) (m u v : Int) (a b : D) (k : Nat) (g g1 g2 : G) (h1 : runF P.T n 7 [a, .int m, .ref k] g = .ok (.int u) g1) (h2 : runF P.T n 7 [b, .int (-m), .ref k] g1 = .ok (.int v) g2) : runF P.T (n + 1) 7 [.tup [.str "sub", a, b], .int m, .ref k] g = .ok (.int (u + v)) g2 := by
  apply eq_of_w
  rw [run_er (F := f7) rfl e7 rfl]
  simp -implicitDefEqProofs [R.w, fin_w, b7, startD, n7, sizeLine_eq, eqS ok_sub ok_number, eqS ok_sub ok_times, eqS ok_sub ok_add, in2, h1, h2, ok_w]
theorem r7_nam (n : Nat) (x : Str) (m : Int) (k : Nat) (L : List D) (g : G) (h : g[k]? = some (.lst L)) (hl : L.length < 1000000) : runF P.T (n + 1) 7 [(Ex.nam x).d, .int m, .ref k] g = .ok (.int 0) (g.set k (.lst (L ++ [.tup [(Ex.nam x).d, .int m]]))) := by
  apply eq_of_w
  rw [run_er (F := f7) rfl e7 rfl]
  simp -implicitDefEqProofs [R.w, fin_w, b7, startD, n7, Ex.d, sizeLine_eq, eqS ok_name ok_number, eqS ok_name ok_times, in2, isl_ref h, app_w h hl]
theorem r7_dv (n : Nat) (a : Ex) (i : Int) (m : Int) (k : Nat) (L : List D) (g : G) (h : g[k]? = some (.lst L)) (hl : L.length < 1000000) : runF P.T (n + 1) 7 [(Ex.dv a i).d, .int m, .ref k] g = .ok (.int 0) (g.set k (.lst (L ++ [.tup [(Ex.dv a i).d, .int m]]))) := by
  apply eq_of_w
  rw [run_er (F := f7) rfl e7 rfl]
  simp -implicitDefEqProofs [R.w, fin_w, b7, startD, n7, Ex.d, sizeLine_eq, eqS ok_div ok_number, eqS ok_div ok_times, in2, isl_ref h, app_w h hl]
theorem r7_md (n : Nat) (a : Ex) (i : Int) (m : Int) (k : Nat) (L : List D) (g : G) (h : g[k]? = some (.lst L)) (hl : L.length < 1000000) : runF P.T (n + 1) 7 [(Ex.md a i).d, .int m, .ref k] g = .ok (.int 0) (g.set k (.lst (L ++ [.tup [(Ex.md a i).d, .int m]]))) := by
  apply eq_of_w
  rw [run_er (F := f7) rfl e7 rfl]
  simp -implicitDefEqProofs [R.w, fin_w, b7, startD, n7, Ex.d, sizeLine_eq, eqS ok_mod ok_number, eqS ok_mod ok_times, in2, isl_ref h, app_w h hl]
/-- gathered: the constant, and the pieces behind the row -/
theorem r7 : ∀ (t : Ex) (m : Int) (k : Nat) (L : List D) (g : G) (n : Nat), t.dep ≤ n → m.natAbs * t.mag < 2 ^ 64 → g[k]? = some (.lst L) → L.length + t.lv < 1000000 →
    runF P.T n 7 [t.d, .int m, .ref k] g = .ok (.int (ga t m).1) (g.set k (.lst (L ++ (ga t m).2.map prD))) := by
  intro t
  induction t with
  | num i =>
    intro m k L g n hn hm h hl
    obtain ⟨n, rfl⟩ : ∃ j, n = j + 1 := ⟨n - 1, by have : 1 ≤ n := hn; omega⟩
    have hm' : m.natAbs < 2 ^ 64 := Nat.lt_of_le_of_lt (Nat.le_mul_of_pos_right _ (mag1 _)) hm
    rw [r7_num n i m k g hm']
    show _ = R.ok _ (g.set k (.lst (L ++ [])))
    rw [List.append_nil, set_same h]
    rfl
  | nam x =>
    intro m k L g n hn hm h hl
    obtain ⟨n, rfl⟩ : ∃ j, n = j + 1 := ⟨n - 1, by have : 1 ≤ n := hn; omega⟩
    exact r7_nam n x m k L g h (by have : L.length + 1 < 1000000 := hl; omega)
  | dv a i ha =>
    intro m k L g n hn hm h hl
    obtain ⟨n, rfl⟩ : ∃ j, n = j + 1 := ⟨n - 1, by have : a.dep + 1 ≤ n := hn; omega⟩
    exact r7_dv n a i m k L g h (by have : L.length + 1 < 1000000 := hl; omega)
  | md a i ha =>
    intro m k L g n hn hm h hl
    obtain ⟨n, rfl⟩ : ∃ j, n = j + 1 := ⟨n - 1, by have : a.dep + 1 ≤ n := hn; omega⟩
    exact r7_md n a i m k L g h (by have : L.length + 1 < 1000000 := hl; omega)
  | tim i a ha =>
    intro m k L g n hn hm h hl
    obtain ⟨n, rfl⟩ : ∃ j, n = j + 1 := ⟨n - 1, by have : a.dep + 1 ≤ n := hn; omega⟩
    have hm' : m.natAbs < 2 ^ 64 := Nat.lt_of_le_of_lt (Nat.le_mul_of_pos_right _ (mag1 _)) hm
    refine r7_tim n i m a.d k g hm' (ha (m * i) k L g n (by have : a.dep + 1 ≤ n + 1 := hn; omega) ?_ h hl)
    rw [Int.natAbs_mul, Nat.mul_assoc]
    exact Nat.lt_of_le_of_lt (Nat.mul_le_mul_left _ (Nat.mul_le_mul_right _ (Nat.le_max_right _ _))) hm
  | ad a b ha hb =>
    intro m k L g n hn hm h hl
    have hk := (List.getElem?_eq_some_iff.mp h).1
    have hn : max a.dep b.dep + 1 ≤ n := hn
    obtain ⟨n, rfl⟩ : ∃ j, n = j + 1 := ⟨n - 1, by omega⟩
    have hl : L.length + (a.lv + b.lv) < 1000000 := hl
    have hm : m.natAbs * (a.mag + b.mag) < 2 ^ 64 := hm
    rw [Nat.mul_add] at hm
    have la := ga_len a m
    have c1 := ha m k L g n (by omega) (by omega) h (by omega)
    have c2 := hb m k (L ++ (ga a m).2.map prD) (g.set k (.lst (L ++ (ga a m).2.map prD))) n (by omega) (by omega) (List.getElem?_set_self hk) (by rw [List.length_append, List.length_map]; omega)
    rw [List.set_set] at c2
    refine (r7_add n m _ _ a.d b.d k g _ _ c1 c2).trans ?_
    show _ = R.ok _ (g.set k (.lst (L ++ ((ga a m).2 ++ (ga b m).2).map prD)))
    rw [List.map_append, List.append_assoc]
    rfl
  | sb a b ha hb =>
    intro m k L g n hn hm h hl
    have hk := (List.getElem?_eq_some_iff.mp h).1
    have hn : max a.dep b.dep + 1 ≤ n := hn
    obtain ⟨n, rfl⟩ : ∃ j, n = j + 1 := ⟨n - 1, by omega⟩
    have hl : L.length + (a.lv + b.lv) < 1000000 := hl
    have hm : m.natAbs * (a.mag + b.mag) < 2 ^ 64 := hm
    rw [Nat.mul_add] at hm
    have la := ga_len a m
    have c1 := ha m k L g n (by omega) (by omega) h (by omega)
    have c2 := hb (-m) k (L ++ (ga a m).2.map prD) (g.set k (.lst (L ++ (ga a m).2.map prD))) n (by omega) (by rw [Int.natAbs_neg]; omega) (List.getElem?_set_self hk) (by rw [List.length_append, List.length_map]; omega)
    rw [List.set_set] at c2
    refine (r7_sub n m _ _ a.d b.d k g _ _ c1 c2).trans ?_
    show _ = R.ok _ (g.set k (.lst (L ++ ((ga a m).2 ++ (ga b (-m)).2).map prD)))
    rw [List.map_append, List.append_assoc]
    rfl
end K74
set_option linter.all false
set_option maxRecDepth 100000
set_option maxHeartbeats 4000000
/-! k74: merging after sorting is sorting after merging. -/
namespace K74
open PD
section
variable {α : Type} [DecidableEq α]
def coef : List (α × Int) → α → Int
  | [], _ => 0
  | q :: r, p => (if q.1 = p then q.2 else 0) + coef r p
def addA : List (α × Int) → α → Int → List (α × Int)
  | [], p, t => [(p, t)]
  | q :: r, p, t => if q.1 = p then (q.1, q.2 + t) :: r else q :: addA r p t
def asc (L : List (α × Int)) (M : List (α × Int)) : List (α × Int) := L.foldl (fun M q => addA M q.1 q.2) M
theorem coef_add (p r : α) (t : Int) : ∀ M : List (α × Int), coef (addA M p t) r = coef M r + (if p = r then t else 0)
  | [] => by simp [addA, coef]
  | q :: M => by
    unfold addA
    split
    · rename_i e
      subst e
      simp only [coef]
      split <;> omega
    · simp only [coef, coef_add p r t M]
      omega
theorem keys_yes (p : α) (t : Int) : ∀ M : List (α × Int), p ∈ M.map (·.1) → (addA M p t).map (·.1) = M.map (·.1)
  | [], h => absurd h (by simp)
  | q :: M, h => by
    unfold addA
    split
    · rfl
    · rename_i e
      rw [List.map_cons, List.map_cons]
      rw [List.map_cons, List.mem_cons] at h
      rcases h with z | z
      · exact absurd z.symm e
      · rw [keys_yes p t M z]
theorem add_no (p : α) (t : Int) : ∀ M : List (α × Int), p ∉ M.map (·.1) → addA M p t = M ++ [(p, t)]
  | [], h => rfl
  | q :: M, h => by
    rw [List.map_cons, List.mem_cons, not_or] at h
    unfold addA
    rw [if_neg (fun e => h.1 e.symm), add_no p t M h.2]
    rfl
theorem coef_asc (r : α) : ∀ (L M : List (α × Int)), coef (asc L M) r = coef M r + coef L r
  | [], M => by simp [asc, coef]
  | q :: L, M => by
    show coef (asc L (addA M q.1 q.2)) r = _
    rw [coef_asc r L, coef_add]
    simp only [coef]
    omega
theorem nd_add (p : α) (t : Int) (M : List (α × Int)) (h : (M.map (·.1)).Nodup) : ((addA M p t).map (·.1)).Nodup := by
  by_cases e : p ∈ M.map (·.1)
  · rw [keys_yes p t M e]; exact h
  · rw [add_no p t M e, List.map_append]
    refine List.nodup_append.mpr ⟨h, by simp, fun a ha b hb z => ?_⟩
    simp at hb
    subst z; subst hb
    exact e ha
theorem nd_asc : ∀ (L M : List (α × Int)), (M.map (·.1)).Nodup → ((asc L M).map (·.1)).Nodup
  | [], M, h => h
  | q :: L, M, h => nd_asc L _ (nd_add q.1 q.2 M h)
theorem key_add (p r : α) (t : Int) (M : List (α × Int)) : r ∈ (addA M p t).map (·.1) ↔ r = p ∨ r ∈ M.map (·.1) := by
  by_cases e : p ∈ M.map (·.1)
  · rw [keys_yes p t M e]
    exact ⟨.inr, fun z => z.elim (fun z => z ▸ e) id⟩
  · rw [add_no p t M e, List.map_append, List.mem_append]
    constructor
    · rintro (z | z)
      · exact .inr z
      · exact .inl (by simpa using z)
    · rintro (z | z)
      · exact .inr (by simp [z])
      · exact .inl z
theorem key_asc (r : α) : ∀ (L M : List (α × Int)), r ∈ (asc L M).map (·.1) ↔ r ∈ L.map (·.1) ∨ r ∈ M.map (·.1)
  | [], M => by simp [asc]
  | q :: L, M => by
    show r ∈ (asc L (addA M q.1 q.2)).map (·.1) ↔ _
    rw [key_asc r L, key_add, List.map_cons, List.mem_cons]
    constructor
    · rintro (z | z | z)
      · exact .inl (.inr z)
      · exact .inl (.inl z)
      · exact .inr z
    · rintro ((z | z) | z)
      · exact .inr (.inl z)
      · exact .inl z
      · exact .inr (.inr z)
theorem coef_no (p : α) : ∀ M : List (α × Int), p ∉ M.map (·.1) → coef M p = 0
  | [], _ => rfl
  | q :: M, h => by
    rw [List.map_cons, List.mem_cons, not_or] at h
    simp only [coef]
    rw [if_neg (fun e => h.1 e.symm), coef_no p M h.2]
    rfl
theorem coef_nd (p : α) (c : Int) : ∀ M : List (α × Int), (M.map (·.1)).Nodup → ((p, c) ∈ M ↔ p ∈ M.map (·.1) ∧ c = coef M p)
  | [], _ => by simp
  | q :: M, h => by
    rw [List.map_cons, List.nodup_cons] at h
    have ih := coef_nd p c M h.2
    simp only [coef, List.map_cons, List.mem_cons]
    by_cases e : q.1 = p
    · subst e
      rw [if_pos rfl, coef_no q.1 M h.1]
      constructor
      · rintro (z | z)
        · exact ⟨.inl rfl, by rw [← z]; show c = c + 0; omega⟩
        · exact absurd (List.mem_map.mpr ⟨_, z, rfl⟩) h.1
      · rintro ⟨_, z⟩
        exact .inl (Prod.ext rfl (by show c = q.2; omega))
    · rw [if_neg e]
      constructor
      · rintro (z | z)
        · exact absurd (congrArg Prod.fst z).symm e
        · have := ih.mp z; exact ⟨.inr this.1, by omega⟩
      · rintro ⟨z | z, w⟩
        · exact absurd z.symm e
        · exact .inr (ih.mpr ⟨z, by omega⟩)
theorem coef_perm {L M : List (α × Int)} (h : L.Perm M) (p : α) : coef L p = coef M p := by
  induction h with
  | nil => rfl
  | cons x _ ih => simp only [coef, ih]
  | swap x y l => simp only [coef]; omega
  | trans _ _ a b => exact a.trans b
/-! ### sorted -/
variable {lt : α × Int → α × Int → Bool} {lo : α → α → Bool}
def SP (lo : α → α → Bool) (M : List (α × Int)) : Prop := (M.map (·.1)).Pairwise fun x y => x ≠ y ∧ lo y x = false
theorem sp_add {M : List (α × Int)} {p : α} {t : Int} (h : SP lo M) (hp : ∀ x ∈ M, x.1 = p ∨ lo p x.1 = false) : SP lo (addA M p t) := by
  unfold SP
  by_cases e : p ∈ M.map (·.1)
  · rw [keys_yes p t M e]; exact h
  · rw [add_no p t M e, List.map_append]
    refine List.pairwise_append.mpr ⟨h, by simp, fun a ha b hb => ?_⟩
    simp at hb
    subst hb
    obtain ⟨x, hx, rfl⟩ := List.mem_map.mp ha
    have ne : x.1 ≠ b := fun z => e (z ▸ ha)
    exact ⟨ne, (hp x hx).resolve_left ne⟩
theorem sp_asc : ∀ (S M : List (α × Int)), SP lo M → (∀ x ∈ M, ∀ y ∈ S, x.1 = y.1 ∨ lo y.1 x.1 = false) → S.Pairwise (fun x y => x.1 = y.1 ∨ lo y.1 x.1 = false) → SP lo (asc S M)
  | [], M, h, _, _ => h
  | q :: S, M, h, hm, hs => by
    rw [List.pairwise_cons] at hs
    refine sp_asc S _ (sp_add h fun x hx => hm x hx q List.mem_cons_self) (fun x hx y hy => ?_) hs.2
    have hk : x.1 ∈ (addA M q.1 q.2).map (·.1) := List.mem_map.mpr ⟨x, hx, rfl⟩
    rcases (key_add q.1 x.1 q.2 M).mp hk with z | z
    · rw [z]; exact hs.1 y hy
    · obtain ⟨x', hx', e⟩ := List.mem_map.mp z
      rw [← e]
      exact hm x' hx' y (List.mem_cons_of_mem _ hy)
/-- sorted then merged is merged then sorted -/
theorem asc_sort (V : α → Prop) (O : SrtO.Swo lt) (H : ∀ p q t s, V p → V q → p ≠ q → lt (p, t) (q, s) = lo p q) (T : ∀ p q, V p → V q → p ≠ q → lo p q = true ∨ lo q p = true) (L : List (α × Int)) (hV : ∀ x ∈ L, V x.1) : SP lo (asc (isort lt L) []) ∧ asc (isort lt L) [] = isort lt (asc L []) := by
  have hV1 : ∀ x ∈ isort lt L, V x.1 := fun x hx => hV x ((isort_perm L).mem_iff.mp hx)
  have hS : (isort lt L).Pairwise (fun x y => x.1 = y.1 ∨ lo y.1 x.1 = false) := by
    refine (isort_ok O L).1.imp_of_mem fun {x y} hx hy h => ?_
    by_cases e : x.1 = y.1
    · exact .inl e
    · have := H y.1 x.1 y.2 x.2 (hV1 y hy) (hV1 x hx) (fun z => e z.symm)
      exact .inr (by rw [← this]; exact h)
  have h1 : SP lo (asc (isort lt L) []) := sp_asc _ _ List.Pairwise.nil (fun x hx => absurd hx (by simp)) hS
  have n1 := nd_asc (isort lt L) [] List.nodup_nil
  have n2 := nd_asc L [] List.nodup_nil
  have mm : ∀ x, x ∈ asc (isort lt L) [] ↔ x ∈ asc L [] := fun ⟨p, c⟩ => by
    rw [coef_nd p c _ n1, coef_nd p c _ n2, key_asc, key_asc, coef_asc, coef_asc, coef_perm (isort_perm L), ((isort_perm L).map _).mem_iff]
  have hV2 : ∀ x ∈ asc (isort lt L) [], V x.1 := fun x hx => by
    have := (key_asc x.1 (isort lt L) []).mp (List.mem_map.mpr ⟨x, hx, rfl⟩)
    rcases this with z | z
    · obtain ⟨y, hy, e⟩ := List.mem_map.mp z
      rw [← e]; exact hV1 y hy
    · exact absurd z (by simp)
  have d1 : (asc (isort lt L) []).Nodup := List.Pairwise.of_map (·.1) (fun a b z e => z (congrArg Prod.fst e)) n1
  have d2 : (asc L []).Nodup := List.Pairwise.of_map (·.1) (fun a b z e => z (congrArg Prod.fst e)) n2
  have pm : (asc (isort lt L) []).Perm (isort lt (asc L [])) := ((List.perm_ext_iff_of_nodup d1 d2).mpr mm).trans (isort_perm _).symm
  refine ⟨h1, List.Perm.eq_of_pairwise (le := fun x y => lt y x = false) (fun a b ha hb h1 h2 => ?_) ?_ (isort_ok O _).1 pm⟩
  · have hb' := (mm b).mpr ((isort_perm _).mem_iff.mp hb)
    by_cases e : a.1 = b.1
    · have ea := ((coef_nd a.1 a.2 _ n1).mp ha).2
      have eb := ((coef_nd b.1 b.2 _ n1).mp hb').2
      exact Prod.ext e (by rw [ea, eb, e])
    · have x1 := H b.1 a.1 b.2 a.2 (hV2 b hb') (hV2 a ha) (fun z => e z.symm)
      have x2 := H a.1 b.1 a.2 b.2 (hV2 a ha) (hV2 b hb') e
      rcases T a.1 b.1 (hV2 a ha) (hV2 b hb') e with z | z
      · rw [← x2] at z; rw [h2] at z; cases z
      · rw [← x1] at z; rw [h1] at z; cases z
  · have := List.pairwise_map.mp h1
    refine this.imp_of_mem fun {x y} hx hy ⟨a, b⟩ => ?_
    have e := H y.1 x.1 y.2 x.2 (hV2 y hy) (hV2 x hx) (fun z => a z.symm)
    rw [← e] at b
    exact b
end
/-! ### the pieces' order -/
open PySem PyProof.Rows
def pP (q : Ex × Int) : PyData := .tuple [q.1.p, .int q.2]
def cP (q : Ex × Int) : PyData := .list [q.1.p, .int q.2]
def ltX (a b : Ex × Int) : Bool := lexL (PySem.W.keyToks (pP a)) (PySem.W.keyToks (pP b))
def loX (p q : Ex) : Bool := PySem.W.dataLt p.p q.p
theorem swoX : SrtO.Swo ltX := swo_key fun q => PySem.W.keyToks (pP q)
theorem key_pc (q : Ex × Int) : PySem.W.keyToks (cP q) = PySem.W.keyToks (pP q) := by
  simp only [pP, cP, PySem.W.keyToks, PySem.W.keyToksAll]
theorem eqv_no {p q : Ex} (h : p ≠ q) : PyData.eqv p.p q.p = false := by
  cases e : PyData.eqv p.p q.p with
  | false => rfl
  | true => exact absurd ((eqv_p p q).mp e) h
theorem ltX_ne (p q : Ex) (t s : Int) (hp : p.nk) (_ : q.nk) (h : p ≠ q) : ltX (p, t) (q, s) = loX p q := by
  show lexL (PySem.W.keyToks (.tuple [p.p, .int t])) (PySem.W.keyToks (.tuple [q.p, .int s])) = _
  simp only [PySem.W.keyToks, PySem.W.keyToksAll]
  show PyProof.Rows.lexLt itemOrd _ _ = _
  rw [lex_self (O := itemOrd)]
  exact toks_diff p.p q.p (can_p p hp) (lt_p p q) (eqv_no h) _ _
theorem loX_tot (p q : Ex) (hp : p.nk) (hq : q.nk) (h : p ≠ q) : loX p q = true ∨ loX q p = true := by
  cases e1 : loX p q with
  | true => exact .inl rfl
  | false =>
    cases e2 : loX q p with
    | true => exact .inr rfl
    | false =>
      have a1 := fun l m => (toks_diff p.p q.p (can_p p hp) (lt_p p q) (eqv_no h) l m).trans e1
      have a2 := fun l m => (toks_diff q.p p.p (can_p q hq) (lt_p q p) (eqv_no fun z => h z.symm) l m).trans e2
      have b1 := lex_total (O := itemOrd) _ _ (a1 [.inl 0] []) (a2 [] [.inl 0])
      have b2 := lex_total (O := itemOrd) _ _ (a1 [] [.inl 0]) (a2 [.inl 0] [])
      have c1 := congrArg List.length b1
      have c2 := congrArg List.length b2
      simp only [List.length_append, List.length_cons, List.length_nil] at c1 c2
      omega
instance : DecidableEq Ex := fun a b => if h : PyData.eqv a.p b.p = true then isTrue ((eqv_p a b).mp h) else isFalse fun e => h ((eqv_p a b).mpr e)
theorem asc_sortX (L : List (Ex × Int)) (h : ∀ x ∈ L, x.1.nk) : SP loX (asc (isort ltX L) []) ∧ asc (isort ltX L) [] = isort ltX (asc L []) :=
  asc_sort Ex.nk swoX ltX_ne loX_tot L h
end K74
set_option linter.all false
set_option maxRecDepth 100000
set_option maxHeartbeats 4000000
/-! k74: sorted, of pieces. -/
namespace K74
open PySem PySem.Spec PyProof.Rows L2 PD
theorem sort_gen {k : Nat} {ds : List D} {ps : List PyData} {g : G} (h : g[k]? = some (.lst ds)) (hp : allP (toP g 69) ds = some ps) (ho : srtOk ps = true) : dSort (.ref k) g = .ok (.ref g.length) (g ++ [.lst (srtD ps ds)]) := by
  have e : lstS (.ref k) g = some ds := by
    show (match g[k]? with
      | some (.lst ds) => some ds
      | _ => none) = _
    rw [h]
  unfold dSort
  rw [e]
  show (match allP (toP g 69) ds with
    | some ps => if srtOk ps then R.ok (D.ref g.length) (g ++ [DO.lst (srtD ps ds)]) else .bad
    | none => .bad) = _
  rw [hp]
  show (if srtOk ps = true then R.ok (D.ref g.length) (g ++ [.lst (srtD ps ds)]) else .bad) = _
  rw [if_pos ho]
theorem all_toP {β : Type} (f : β → D) (r : β → PyData) {F : D → Option PyData} : ∀ L : List β, (∀ x ∈ L, F (f x) = some (r x)) → allP F (L.map f) = some (L.map r)
  | [], _ => rfl
  | x :: L, h => by
    show (match F (f x), allP F (L.map f) with
      | some x, some xs => some (x :: xs)
      | _, _ => none) = _
    rw [h x List.mem_cons_self, all_toP f r L fun y hy => h y (List.mem_cons_of_mem _ hy)]
    rfl
theorem zip_m {β γ δ : Type} (u : β → γ) (v : β → δ) : ∀ L : List β, (L.map u).zip (L.map v) = L.map fun x => (u x, v x)
  | [] => rfl
  | x :: L => by rw [List.map_cons, List.map_cons, List.map_cons, List.zip_cons_cons, zip_m u v L]
theorem ltP_ok (a b : Ex × Int) : ltOk (pP a) (pP b) = true := by
  show ltOks [a.1.p, .int a.2] [b.1.p, .int b.2] = true
  rw [ltOks]
  split
  · simp [ltOks, ltOk, PyData.eqv]
  · exact lt_p _ _
theorem ltC_ok (a b : Ex × Int) : ltOk (cP a) (cP b) = true := ltP_ok a b
theorem pP_shaped (a : Ex × Int) (h : a.1.nk) (hd : a.1.dep ≤ 50) : SeqAt.shaped (pP a) = true := by
  have := dep_p a.1
  unfold SeqAt.shaped
  rw [Bool.and_eq_true, decide_eq_true_iff]
  exact ⟨by simp [pP, PyData.canLay0, PyData.canLayAll0, can_p a.1 h], by simp [pP, PyData.depth, PyData.depthAll]; omega⟩
theorem cP_shaped (a : Ex × Int) (h : a.1.nk) (hd : a.1.dep ≤ 50) : SeqAt.shaped (cP a) = true := by
  have := dep_p a.1
  unfold SeqAt.shaped
  rw [Bool.and_eq_true, decide_eq_true_iff]
  exact ⟨by simp [cP, PyData.canLay0, PyData.canLayAll0, can_p a.1 h], by simp [cP, PyData.depth, PyData.depthAll]; omega⟩
theorem tag_p (a : Ex) : tagP a.p = some "tuple" := by cases a <;> rfl
theorem srt_pP (L : List (Ex × Int)) (h : ∀ q ∈ L, q.1.nk ∧ q.1.dep ≤ 50) : srtOk (L.map pP) = true := by
  have h1 : (L.map pP).all SeqAt.shaped = true := List.all_eq_true.mpr fun x hx => by
    obtain ⟨q, hq, rfl⟩ := List.mem_map.mp hx
    exact pP_shaped q (h q hq).1 (h q hq).2
  have h2 : ((L.map pP).all fun x => (L.map pP).all fun y => ltOk x y) = true := List.all_eq_true.mpr fun x hx => List.all_eq_true.mpr fun y hy => by
    obtain ⟨q, hq, rfl⟩ := List.mem_map.mp hx
    obtain ⟨r, hr, rfl⟩ := List.mem_map.mp hy
    exact ltP_ok q r
  have h3 : allTag tag1 (L.map pP) "tuple" = true := List.all_eq_true.mpr fun x hx => by
    obtain ⟨q, hq, rfl⟩ := List.mem_map.mp hx
    exact decide_eq_true (tag_p q.1)
  unfold srtOk
  rw [h1, h2, h3]
  simp
theorem srt_cP (L : List (Ex × Int)) (h : ∀ q ∈ L, q.1.nk ∧ q.1.dep ≤ 50) : srtOk (L.map cP) = true := by
  have h1 : (L.map cP).all SeqAt.shaped = true := List.all_eq_true.mpr fun x hx => by
    obtain ⟨q, hq, rfl⟩ := List.mem_map.mp hx
    exact cP_shaped q (h q hq).1 (h q hq).2
  have h2 : ((L.map cP).all fun x => (L.map cP).all fun y => ltOk x y) = true := List.all_eq_true.mpr fun x hx => List.all_eq_true.mpr fun y hy => by
    obtain ⟨q, hq, rfl⟩ := List.mem_map.mp hx
    obtain ⟨r, hr, rfl⟩ := List.mem_map.mp hy
    exact ltC_ok q r
  have h3 : allTag tagP (L.map cP) "list" = true := List.all_eq_true.mpr fun x hx => by
    obtain ⟨q, hq, rfl⟩ := List.mem_map.mp hx
    exact decide_eq_true rfl
  unfold srtOk
  rw [h1, h2, h3]
  simp
/-- sorted, of pairs -/
theorem sort_p {k : Nat} {g : G} (L : List (Ex × Int)) (h : g[k]? = some (.lst (L.map prD))) (hd : ∀ q ∈ L, q.1.nk ∧ q.1.dep ≤ 50) : dSort (.ref k) g = .ok (.ref g.length) (g ++ [.lst ((isort ltX L).map prD)]) := by
  rw [sort_gen h (all_toP prD pP L fun q hq => ?_) (srt_pP L hd)]
  · unfold srtD
    rw [List.map_map, zip_m]
    have := isort_map (lt := ltX) (lu := fun a b : List (Int ⊕ List Nat) × D => lexL a.1 b.1) (fun q : Ex × Int => ((PySem.W.keyToks ∘ pP) q, prD q)) (l := L) fun x _ y _ => rfl
    rw [← this, List.map_map]
    rfl
  · have := (hd q hq).2
    show (allP (toP g 68) [q.1.d, .int q.2]).map PyData.tuple = _
    simp only [allP, toP_le g q.1 (show q.1.dep < 68 by omega)]
    rfl
/-- sorted, of cells: a row of places -/
theorem sort_c {k : Nat} {g : G} (L : List ((Ex × Int) × Nat)) (h : g[k]? = some (.lst (L.map fun q => .ref q.2))) (hc : ∀ q ∈ L, g[q.2]? = some (.lst [q.1.1.d, .int q.1.2])) (hd : ∀ q ∈ L, q.1.1.nk ∧ q.1.1.dep ≤ 50) : dSort (.ref k) g = .ok (.ref g.length) (g ++ [.lst ((isort (fun a b => ltX a.1 b.1) L).map fun q => .ref q.2)]) := by
  have ho := srt_cP (L.map (·.1)) fun q hq => by
    obtain ⟨r, hr, rfl⟩ := List.mem_map.mp hq
    exact hd r hr
  rw [List.map_map] at ho
  rw [sort_gen h (all_toP _ (cP ∘ (·.1)) L fun q hq => ?_) ho]
  · unfold srtD
    rw [List.map_map, zip_m]
    have := isort_map (lt := fun a b : (Ex × Int) × Nat => ltX a.1 b.1) (lu := fun a b : List (Int ⊕ List Nat) × D => lexL a.1 b.1) (fun q : (Ex × Int) × Nat => ((PySem.W.keyToks ∘ cP ∘ (·.1)) q, (D.ref q.2 : D))) (l := L) fun x _ y _ => by
      show lexL (PySem.W.keyToks (cP x.1)) (PySem.W.keyToks (cP y.1)) = _
      rw [key_pc, key_pc]
      rfl
    rw [← this, List.map_map]
    rfl
  · have h2 := (hd q hq).2
    show (match g[q.2]? with
      | some (.lst ds) => (allP (toP g 68) ds).map PyData.list
      | _ => none) = _
    rw [hc q hq]
    show (allP (toP g 68) [q.1.1.d, .int q.1.2]).map PyData.list = _
    simp only [allP, toP_le g q.1.1 (show q.1.1.dep < 68 by omega)]
    rfl
end K74
set_option linter.all false
set_option maxRecDepth 100000
set_option maxHeartbeats 4000000
/-! k74: rules for loops, and for rows against the empty row. -/
namespace K74
open PySem PySem.Spec PyProof.Rows L2 PD
section
variable {Qn : Sl → G → Prop} {Qr : D → G → Prop} {Es : Str → Fs → Sl → G → Prop} {cl : Nat → List D → G → PD.R D} {δ : Sl} {g : G} {p p' : Pos}
theorem x_for {tg : Tg} {e : E} {body : Ss} (he : (ev cl e δ g).sat (fun x g1 => ∃ ds, seqD x g1 = some ds ∧ (forS (wkSeq x) tg (exes cl body) FUEL 0 δ g1).sat Qn Qr Es) fun c fs g1 => Es c fs δ g1) : (exe cl (.forr tg (.seq e) body p) δ g).sat Qn Qr Es := by
  simp only [exe, evI, toS_w, bind_w]
  refine PD.R.sat_mono he (fun x g1 hx => ?_) fun _ _ _ z => z
  obtain ⟨ds, h1, h2⟩ := hx
  rw [h1]
  exact h2
theorem x_put {o i v : E} : (exe cl (.put o i v p p') δ g).sat Qn Qr Es = (ev cl v δ g).sat (fun z g1 => (ev cl o δ g1).sat (fun x g2 => (ev cl i δ g2).sat (fun y g3 => (putR x y z g3).sat (fun _ g4 => Qn δ g4) (fun c fs g4 => Es c fs δ g4)) (fun c fs g3 => Es c fs δ g3)) (fun c fs g2 => Es c fs δ g2)) (fun c fs g1 => Es c fs δ g1) := by simp only [exe, toS_w, nx_w]
end
theorem eqNil {g : G} {a b : Nat} {ds : List D} {ps : List PyData} (ha : g[a]? = some (.lst ds)) (hb : g[b]? = some (.lst [])) (hp : allP (toP g 69) ds = some ps) (hs : SeqAt.shaped (.list ps) = true) : dEq (.ref a) (.ref b) g = some ds.isEmpty := by
  have h1 : toP g 70 (.ref a) = some (.list ps) := by
    show (match g[a]? with
      | some (.lst ds) => (allP (toP g 69) ds).map PyData.list
      | _ => none) = _
    rw [ha]
    show (allP (toP g 69) ds).map PyData.list = _
    rw [hp]; rfl
  have h2 : toP g 70 (.ref b) = some (.list []) := by
    show (match g[b]? with
      | some (.lst ds) => (allP (toP g 69) ds).map PyData.list
      | _ => none) = _
    rw [hb]; rfl
  have h3 : SeqAt.shaped (.list []) = true := by decide +kernel
  have hl : ∀ {ds : List D} {ps : List PyData}, allP (toP g 69) ds = some ps → ds.isEmpty = ps.isEmpty := fun {ds ps} h => by
    cases ds with
    | nil => cases h; rfl
    | cons d r =>
      unfold allP at h
      split at h
      · cases h; rfl
      · cases h
  unfold dEq
  rw [h1, h2]
  show (if (SeqAt.shaped (.list ps) && SeqAt.shaped (.list [])) = true then some (PyData.eqv (.list ps) (.list [])) else none) = _
  rw [hs, h3, hl hp]
  show some (PyData.eqv (.list ps) (.list [])) = _
  cases ps <;> rfl
end K74
set_option linter.all false
set_option maxRecDepth 100000
set_option maxHeartbeats 4000000
/-! k74: formed. -/
namespace K74
open PySem PySem.Spec PyProof.Rows L2 PD
def rP (q : Ex × Int) : D := .tup [.int q.2, q.1.d]
theorem ix_last (M : List D) (d : D) : ixN (M ++ [d]).length (-1) = some M.length := by
  have e : (M ++ [d]).length = M.length + 1 := by simp
  rw [e]
  have h1 : (1 : Int) ≤ (M.length : Int) + 1 := by omega
  have h2 : (-1 + ((M.length : Int) + 1)).toNat = M.length := by omega
  simp [ixN, h1, h2]
theorem last_ix {g : G} {b : Nat} {M : List D} {d : D} (h : g[b]? = some (.lst (M ++ [d]))) {Q : D → G → Prop} {Ex : Str → Fs → G → Prop} : (dIdx (.ref b) (.int (-1)) g).sat Q Ex = Q d g := by
  have : dIdxO (.ref b) (.int (-1)) g = some d := by
    show (match g[b]? with
      | some (.lst ds) => atD ds (.int (-1))
      | some (.dic kvs) => getD' kvs (.int (-1))
      | _ => none) = _
    rw [h]
    show atD (M ++ [d]) (.int (-1)) = _
    show (ixN (M ++ [d]).length (-1)).bind _ = _
    rw [ix_last]
    show (M ++ [d])[M.length]? = some d
    rw [List.getElem?_append_right (Nat.le_refl _), Nat.sub_self]; rfl
  unfold dIdx; rw [this]; rfl
theorem last_put {g : G} {b : Nat} {M : List D} {d v : D} (h : g[b]? = some (.lst (M ++ [d]))) {Q : Unit → G → Prop} {Ex : Str → Fs → G → Prop} : (putR (.ref b) (.int (-1)) v g).sat Q Ex = Q () (g.set b (.lst (M ++ [v]))) := by
  have : putR (.ref b) (.int (-1)) v g = .ok () (g.set b (.lst (M ++ [v]))) := by
    unfold putR
    simp only [h]
    rw [ix_last]
    simp
  rw [this]; rfl
end K74
set_option linter.all false
set_option maxRecDepth 100000
set_option maxHeartbeats 4000000
/-! k74: formed, one turn. -/
namespace K74
open PySem PySem.Spec PyProof.Rows L2 PD
theorem eqEx (a b : Ex) (g : G) (ha : a.nk) (hb : b.nk) (da : a.dep ≤ 50) (db : b.dep ≤ 50) {Q : D → G → Prop} {Ex : Str → Fs → G → Prop} : (cmpD .Eq a.d b.d g).sat Q Ex = Q (.bl (decide (a = b))) g := by
  have : dEq a.d b.d g = some (decide (a = b)) := by
    unfold dEq
    rw [toP_le g a (show a.dep < 70 by omega), toP_le g b (show b.dep < 70 by omega)]
    show (if (SeqAt.shaped a.p && SeqAt.shaped b.p) = true then some (PyData.eqv a.p b.p) else none) = _
    rw [shaped_p a ha (by omega), shaped_p b hb (by omega)]
    show some (PyData.eqv a.p b.p) = _
    congr 1
    by_cases e : a = b
    · rw [decide_eq_true e]; exact (eqv_p a b).mpr e
    · rw [decide_eq_false e]; exact eqv_no e
  show (ofB (dEq a.d b.d g) g).sat Q Ex = _
  rw [this]; rfl
def qP (q : Ex × Int) : PyData := .tuple [.int q.2, q.1.p]
theorem rows_p (g : G) (L : List (Ex × Int)) (h : ∀ q ∈ L, q.1.dep ≤ 50) : allP (toP g 69) (L.map rP) = some (L.map qP) :=
  all_toP rP qP L fun q hq => by
    have := h q hq
    show (allP (toP g 68) [.int q.2, q.1.d]).map PyData.tuple = _
    simp only [allP, toP_le g q.1 (show q.1.dep < 68 by omega)]
    rfl
theorem rows_s : ∀ (L : List (Ex × Int)), (∀ q ∈ L, q.1.nk ∧ q.1.dep ≤ 50) → PyData.canLayAll0 (L.map qP) = true ∧ PyData.depthAll (L.map qP) ≤ 53
  | [], _ => ⟨rfl, by simp [PyData.depthAll]⟩
  | q :: L, h => by
    have ih := rows_s L fun r hr => h r (List.mem_cons_of_mem _ hr)
    have h1 := h q List.mem_cons_self
    have := dep_p q.1
    refine ⟨?_, ?_⟩
    · simp [qP, PyData.canLay0, PyData.canLayAll0, can_p q.1 h1.1, ih.1]
    · have h2 := h1.2
      have h3 := ih.2
      simp [qP, PyData.depth, PyData.depthAll]
      omega
end K74
set_option linter.all false
set_option maxRecDepth 100000
set_option maxHeartbeats 4000000
/-! k74: formed, one turn. -/
namespace K74
open PySem PySem.Spec PyProof.Rows L2 PD
theorem neNil {g : G} {a b : Nat} (L : List (Ex × Int)) (ha : g[a]? = some (.lst (L.map rP))) (hb : g[b]? = some (.lst [])) (h : ∀ q ∈ L, q.1.nk ∧ q.1.dep ≤ 50) {Q : D → G → Prop} {Ex : Str → Fs → G → Prop} : (cmpD .NotEq (.ref a) (.ref b) g).sat Q Ex = Q (.bl (!L.isEmpty)) g := by
  have hs : SeqAt.shaped (.list (L.map qP)) = true := by
    obtain ⟨h1, h2⟩ := rows_s L h
    unfold SeqAt.shaped
    rw [Bool.and_eq_true, decide_eq_true_iff]
    exact ⟨h1, by simp [PyData.depth]; omega⟩
  have e := eqNil ha hb (rows_p g L fun q hq => (h q hq).2) hs
  show (ofB ((dEq (.ref a) (.ref b) g).map (!·)) g).sat Q Ex = _
  rw [e]
  show Q (.bl (!(L.map rP).isEmpty)) g = _
  rw [show (L.map rP).isEmpty = L.isEmpty from by cases L <;> rfl]
end K74
set_option linter.all false
set_option maxRecDepth 100000
set_option maxHeartbeats 4000000
/-! k74: formed, one turn. -/
namespace K74
open PySem PySem.Spec PyProof.Rows L2 PD
def s8 : Ss := (.cons
    (.ifs (.bop true (.cons (.cmp .NotEq (.var 2 PD.e0 p0) (.lst .nil p0) p0) (.cons (.cmp .Eq (.idx (.idx (.var 2 PD.e0 p0) (.neg (.num 1 0 p0) p0) p0) (.num 1 0 p0) p0) (.var 4 PD.e0 p0) p0) .nil)) p0) (.cons
      (.put (.var 2 PD.e0 p0) (.neg (.num 1 0 p0) p0) (.tup (.cons (.bin .Add (.idx (.idx (.var 2 PD.e0 p0) (.neg (.num 1 0 p0) p0) p0) (.num 0 0 p0) p0) (.var 5 PD.e0 p0) p0) (.cons (.var 4 PD.e0 p0) .nil)) 0 p0) p0 p0)
      .nil) (.cons
      (.exp (.mth .append (.var 2 PD.e0 p0) p0 (.cons (.tup (.cons (.var 5 PD.e0 p0) (.cons (.var 4 PD.e0 p0) .nil)) 0 p0) .nil) p0) p0)
      .nil) p0)
    .nil)
theorem s8_nil {cl : Nat → List D → G → PD.R D} {x0 x1 x3 x6 : Option D} (b : Nat) (p : Ex) (t : Int) (g : G) (hb : g[b]? = some (.lst [])) {Qr : D → G → Prop} {Es : Str → Fs → Sl → G → Prop} :
    (exes cl s8 [x0, x1, some (.ref b), x3, some p.d, some (.int t), x6] g).sat (fun δ' g' => δ' = [x0, x1, some (.ref b), x3, some p.d, some (.int t), x6] ∧ g' = (g ++ [DO.lst []]).set b (.lst [rP (p, t)])) Qr Es := by
  have hk := (List.getElem?_eq_some_iff.mp hb).1
  have hb1 : (g ++ [DO.lst []])[b]? = some (.lst []) := by rw [List.getElem?_append_left hk]; exact hb
  have hn : (g ++ [DO.lst []])[g.length]? = some (.lst []) := by rw [List.getElem?_append_right (Nat.le_refl _), Nat.sub_self]; rfl
  have e1 : ∀ {Q : D → G → Prop} {Ex : Str → Fs → G → Prop}, (cmpD .NotEq (.ref b) (.ref g.length) (g ++ [DO.lst []])).sat Q Ex = Q (.bl false) (g ++ [DO.lst []]) := fun {Q Ex} => neNil [] hb1 hn (fun q hq => absurd hq (by simp))
  simp -implicitDefEqProofs [s8, sizeLine_eq, e1, isl_ref hb1, app_w hb1, rP]
theorem s8_con {cl : Nat → List D → G → PD.R D} {x0 x1 x3 x6 : Option D} (b : Nat) (p : Ex) (t : Int) (M : List (Ex × Int)) (q : Ex × Int) (g : G) (hb : g[b]? = some (.lst ((M ++ [q]).map rP))) (hM : ∀ r ∈ M ++ [q], r.1.nk ∧ r.1.dep ≤ 50) (hp : p.nk) (hd : p.dep ≤ 50) (hl : M.length + 1 < 1000000) {Qr : D → G → Prop} {Es : Str → Fs → Sl → G → Prop} :
    (exes cl s8 [x0, x1, some (.ref b), x3, some p.d, some (.int t), x6] g).sat (fun δ' g' => δ' = [x0, x1, some (.ref b), x3, some p.d, some (.int t), x6] ∧ g' = (g ++ [DO.lst []]).set b (.lst ((if q.1 = p then M ++ [(p, q.2 + t)] else M ++ [q] ++ [(p, t)]).map rP))) Qr Es := by
  have hk := (List.getElem?_eq_some_iff.mp hb).1
  have hb1 : (g ++ [DO.lst []])[b]? = some (.lst ((M ++ [q]).map rP)) := by rw [List.getElem?_append_left hk]; exact hb
  have hn : (g ++ [DO.lst []])[g.length]? = some (.lst []) := by rw [List.getElem?_append_right (Nat.le_refl _), Nat.sub_self]; rfl
  have e1 : ∀ {Q : D → G → Prop} {Ex : Str → Fs → G → Prop}, (cmpD .NotEq (.ref b) (.ref g.length) (g ++ [DO.lst []])).sat Q Ex = Q (.bl true) (g ++ [DO.lst []]) := fun {Q Ex} => by
    rw [neNil (M ++ [q]) hb1 hn hM]
    rw [show (M ++ [q]).isEmpty = false from by cases M <;> rfl]
    rfl
  have hb2 : (g ++ [DO.lst []])[b]? = some (.lst (M.map rP ++ [.tup [.int q.2, q.1.d]])) := by rw [hb1, List.map_append]; rfl
  have hq := hM q (by simp)
  by_cases e : q.1 = p
  · rw [e] at hb2
    simp -implicitDefEqProofs [s8, sizeLine_eq, e1, last_ix hb2, eqEx p p _ hp hp hd hd, e, x_put, last_put hb2, rP]
  · have hl2 : (M.map rP ++ [D.tup [.int q.2, q.1.d]]).length < 1000000 := by simp; omega
    simp -implicitDefEqProofs [s8, sizeLine_eq, e1, last_ix hb2, eqEx q.1 p _ hq.1 hp hq.2 hd, e, isl_ref hb2, app_w hb2 hl2, rP]
end K74
set_option linter.all false
set_option maxRecDepth 100000
set_option maxHeartbeats 4000000
/-! k74: formed. -/
namespace K74
open PySem PySem.Spec PyProof.Rows L2 PD
theorem ga_nk : ∀ (t : Ex) (m : Int), t.nk → ∀ q ∈ (ga t m).2, q.1.nk ∧ q.1.dep ≤ t.dep := by
  intro t
  induction t with
  | num i => intro m _ q hq; simp [ga] at hq
  | nam x => intro m h q hq; simp [ga] at hq; subst hq; exact ⟨h, Nat.le_refl _⟩
  | dv a k ha => intro m h q hq; simp [ga] at hq; subst hq; exact ⟨h, Nat.le_refl _⟩
  | md a k ha => intro m h q hq; simp [ga] at hq; subst hq; exact ⟨h, Nat.le_refl _⟩
  | tim k a ha => intro m h q hq; have := ha (m * k) h q hq; exact ⟨this.1, Nat.le_succ_of_le this.2⟩
  | ad a b ha hb =>
    intro m h q hq
    show _ ∧ q.1.dep ≤ max a.dep b.dep + 1
    rcases List.mem_append.mp hq with z | z
    · have := ha m h.1 q z; exact ⟨this.1, by omega⟩
    · have := hb m h.2 q z; exact ⟨this.1, by omega⟩
  | sb a b ha hb =>
    intro m h q hq
    show _ ∧ q.1.dep ≤ max a.dep b.dep + 1
    rcases List.mem_append.mp hq with z | z
    · have := ha m h.1 q z; exact ⟨this.1, by omega⟩
    · have := hb (-m) h.2 q z; exact ⟨this.1, by omega⟩
/-- where the row is sorted, an equal piece is the last one -/
theorem add_last {lo : Ex → Ex → Bool} (M : List (Ex × Int)) (q : Ex × Int) (p : Ex) (t : Int) (h : q.1 = p ∨ p ∉ (M ++ [q]).map (·.1)) (hn : q.1 = p → p ∉ M.map (·.1)) : addA (M ++ [q]) p t = if q.1 = p then M ++ [(p, q.2 + t)] else M ++ [q] ++ [(p, t)] := by
  by_cases e : q.1 = p
  · rw [if_pos e]
    have := hn e
    clear h hn
    induction M with
    | nil => show (if q.1 = p then [(q.1, q.2 + t)] else _) = _; rw [if_pos e, e]; rfl
    | cons r M ih =>
      rw [List.map_cons, List.mem_cons, not_or] at this
      show (if r.1 = p then _ else r :: addA (M ++ [q]) p t) = _
      rw [if_neg (fun z => this.1 z.symm), ih this.2]
      rfl
  · rw [if_neg e]
    exact add_no p t _ (h.resolve_left e)
theorem last_fact (M : List (Ex × Int)) (q : Ex × Int) (p : Ex) (hs : SP loX (M ++ [q])) (hp : ∀ x ∈ M ++ [q], x.1 = p ∨ loX p x.1 = false) (hk : ∀ x ∈ M ++ [q], x.1.nk) (pk : p.nk) : (q.1 = p ∨ p ∉ (M ++ [q]).map (·.1)) ∧ (q.1 = p → p ∉ M.map (·.1)) := by
  unfold SP at hs
  rw [List.map_append, List.pairwise_append] at hs
  have h3 := fun a ha => hs.2.2 a ha q.1 (by simp)
  refine ⟨?_, fun e h => (h3 p h).1 e.symm⟩
  by_cases e : q.1 = p
  · exact .inl e
  · refine .inr fun h => ?_
    rw [List.map_append, List.mem_append] at h
    rcases h with h | h
    · have h4 := (h3 p h).2
      have h5 := (hp q (by simp)).resolve_left e
      rcases loX_tot p q.1 pk (hk q (by simp)) (fun z => e z.symm) with z | z
      · rw [h5] at z; cases z
      · rw [h4] at z; cases z
    · simp at h
      exact e h.symm
end K74
set_option linter.all false
set_option maxRecDepth 100000
set_option maxHeartbeats 4000000
/-! k74: formed. -/
namespace K74
open PySem PySem.Spec PyProof.Rows L2 PD
theorem s8_w {cl : Nat → List D → G → PD.R D} {x0 x1 x3 x6 : Option D} (b : Nat) (p : Ex) (t : Int) (M : List (Ex × Int)) (g : G) (hb : g[b]? = some (.lst (M.map rP))) (hM : ∀ r ∈ M, r.1.nk ∧ r.1.dep ≤ 50) (hp : p.nk) (hd : p.dep ≤ 50) (hl : M.length < 1000000) (hs : SP loX M) (ho : ∀ x ∈ M, x.1 = p ∨ loX p x.1 = false) {Qr : D → G → Prop} {Es : Str → Fs → Sl → G → Prop} :
    (exes cl s8 [x0, x1, some (.ref b), x3, some p.d, some (.int t), x6] g).sat (fun δ' g' => δ' = [x0, x1, some (.ref b), x3, some p.d, some (.int t), x6] ∧ g' = (g ++ [DO.lst []]).set b (.lst ((addA M p t).map rP))) Qr Es := by
  rcases List.eq_nil_or_concat M with rfl | ⟨M', q, rfl⟩
  · exact s8_nil b p t g hb
  · rw [List.concat_eq_append] at *
    obtain ⟨h1, h2⟩ := last_fact M' q p hs ho (fun x hx => (hM x hx).1) hp
    rw [add_last (lo := loX) M' q p t h1 h2]
    exact s8_con b p t M' q g hb hM hp hd (by simpa using hl)
end K74
set_option linter.all false
set_option maxRecDepth 100000
set_option maxHeartbeats 4000000
/-! k74: formed, the loop. -/
namespace K74
open PySem PySem.Spec PyProof.Rows L2 PD
theorem take_asc (S : List (Ex × Int)) (i : Nat) (h : i < S.length) : asc (S.take (i + 1)) [] = addA (asc (S.take i) []) S[i].1 S[i].2 := by
  rw [List.take_succ_eq_append_getElem h]
  unfold asc
  rw [List.foldl_append]
  rfl
theorem asc_len : ∀ (L M : List (Ex × Int)), (asc L M).length ≤ M.length + L.length
  | [], M => Nat.le_refl _
  | q :: L, M => by
    have h1 := asc_len L (addA M q.1 q.2)
    have h2 : ∀ M : List (Ex × Int), (addA M q.1 q.2).length ≤ M.length + 1 := fun M => by
      induction M with
      | nil => exact Nat.le_refl _
      | cons r M ih =>
        unfold addA
        split
        · simp
        · simp; omega
    have := h2 M
    show (asc L (addA M q.1 q.2)).length ≤ _
    simp only [List.length_cons]
    omega
theorem asc_mem (L : List (Ex × Int)) (V : Ex → Prop) (h : ∀ q ∈ L, V q.1) : ∀ q ∈ asc L [], V q.1 := fun q hq => by
  rcases (key_asc q.1 L []).mp (List.mem_map.mpr ⟨q, hq, rfl⟩) with z | z
  · obtain ⟨r, hr, e⟩ := List.mem_map.mp z
    rw [← e]; exact h r hr
  · exact absurd z (by simp)
/-- what is sorted: the pieces never fall -/
theorem rise (L : List (Ex × Int)) (h : ∀ q ∈ L, q.1.nk) : (isort ltX L).Pairwise fun x y => x.1 = y.1 ∨ loX y.1 x.1 = false := by
  have hV1 : ∀ x ∈ isort ltX L, x.1.nk := fun x hx => h x ((isort_perm L).mem_iff.mp hx)
  refine (isort_ok swoX L).1.imp_of_mem fun {x y} hx hy z => ?_
  by_cases e : x.1 = y.1
  · exact .inl e
  · exact .inr (by rw [← ltX_ne y.1 x.1 y.2 x.2 (hV1 y hy) (hV1 x hx) (fun z => e z.symm)]; exact z)
end K74
set_option linter.all false
set_option maxRecDepth 100000
set_option maxHeartbeats 4000000
/-! k74: formed, the loop. -/
namespace K74
open PySem PySem.Spec PyProof.Rows L2 PD
theorem r8_loop {cl : Nat → List D → G → PD.R D} {x0 x1 x3 x6 : Option D} (a b s : Nat) (L : List (Ex × Int)) (hL : ∀ q ∈ L, q.1.nk ∧ q.1.dep ≤ 50) (hl : L.length < 1000000) (g0 gs : G) (gr : Gr g0 gs) (h0 : g0.length ≤ b) (hbs : b < s) (hb : gs[b]? = some (.lst [])) (hs : gs[s]? = some (.lst ((isort ltX L).map prD))) {x4 x5 : Option D}
    {Qn : Sl → G → Prop} {Qr : D → G → Prop} {Es : Str → Fs → Sl → G → Prop} (hq : ∀ y4 y5 g', Gr g0 g' → g'[b]? = some (.lst ((asc (isort ltX L) []).map rP)) → Qn [x0, x1, some (.ref b), x3, y4, y5, x6] g') :
    (forS (wkSeq (.ref s)) (.tup [(.name 4 PD.e0 p0), (.name 5 PD.e0 p0)] 0 p0) (exes cl s8) FUEL 0 [x0, x1, some (.ref b), x3, x4, x5, x6] gs).sat Qn Qr Es := by
  have hS : ∀ q ∈ isort ltX L, q.1.nk ∧ q.1.dep ≤ 50 := fun q hq => hL q ((isort_perm L).mem_iff.mp hq)
  have hlen : (isort ltX L).length = L.length := (isort_perm L).length_eq
  generalize hSe : isort ltX L = S at *
  have hr : S.Pairwise fun x y => x.1 = y.1 ∨ loX y.1 x.1 = false := by rw [← hSe]; exact rise L fun q hq => (hL q hq).1
  refine for_w (fun i δ gi => i ≤ S.length ∧ Gr g0 gi ∧ gi[b]? = some (.lst ((asc (S.take i) []).map rP)) ∧ gi[s]? = some (.lst (S.map prD)) ∧ ∃ y4 y5, δ = [x0, x1, some (.ref b), x3, y4, y5, x6]) S.length (fun i δ gi ⟨hi, gri, hbi, hsi, y4, y5, hδ⟩ => ⟨hi, (S.map prD)[i]?, ?_, fun z => ?_, fun d hd => ?_⟩) (fun δ gi ⟨_, gri, hbi, _, y4, y5, hδ⟩ => ?_) FUEL 0 _ gs ⟨Nat.zero_le _, gr, hb, hs, x4, x5, rfl⟩ (by unfold FUEL; omega)
  · show (seqD (.ref s) gi).map _ = _
    have : seqD (.ref s) gi = some (S.map prD) := by
      show (match gi[s]? with
        | some (.lst ds) => some ds
        | _ => none) = _
      rw [hsi]
    rw [this]; rfl
  · have := List.getElem?_eq_none_iff.mp z
    rw [List.length_map] at this; omega
  · have hlt := (List.getElem?_eq_some_iff.mp hd).1
    rw [List.length_map] at hlt
    have hd' : d = prD S[i] := by
      rw [List.getElem?_map, List.getElem?_eq_getElem hlt] at hd
      cases hd; rfl
    subst hd'
    subst hδ
    refine ⟨hlt, [x0, x1, some (.ref b), x3, some S[i].1.d, some (.int S[i].2), x6], rfl, ?_⟩
    have tk : ∀ x ∈ S.take i, x ∈ S := fun x hx => List.mem_of_mem_take hx
    have hp := hS S[i] (List.getElem_mem hlt)
    have hsp : SP loX (asc (S.take i) []) := sp_asc _ _ List.Pairwise.nil (fun x hx => absurd hx (by simp)) (hr.sublist (List.take_sublist i S))
    have ho : ∀ x ∈ asc (S.take i) [], x.1 = S[i].1 ∨ loX S[i].1 x.1 = false := asc_mem _ (fun e => e = S[i].1 ∨ loX S[i].1 e = false) fun q hq => by
      obtain ⟨j, hj, e⟩ := List.mem_take_iff_getElem.mp hq
      have := List.pairwise_iff_getElem.mp hr j i (by omega) hlt (by omega)
      rw [← e]; exact this
    have al := asc_len (S.take i) []
    rw [List.length_take] at al
    refine S_mono (s8_w b S[i].1 S[i].2 _ gi hbi (asc_mem _ (fun e => e.nk ∧ e.dep ≤ 50) fun q hq => hS q (tk q hq)) hp.1 hp.2 (by simp at al; omega) hsp ho) (fun δ' g' ⟨e1, e2⟩ => ?_) (fun _ _ z => z) fun _ _ _ _ z => z
    subst e1; subst e2
    have hbl := (List.getElem?_eq_some_iff.mp hbi).1
    have hsl := (List.getElem?_eq_some_iff.mp hsi).1
    refine ⟨hlt, (gri.trans (Gr.add _ _)).set h0 _, ?_, ?_, _, _, rfl⟩
    · rw [Gr.set_at (by rw [List.length_append]; omega), take_asc S i hlt]
    · rw [List.getElem?_set_ne (by omega), List.getElem?_append_left hsl]; exact hsi
  · subst hδ
    rw [List.take_length] at hbi
    exact hq y4 y5 gi gri hbi
end K74
set_option linter.all false
set_option maxRecDepth 100000
set_option maxHeartbeats 4000000
/-! k74: formed. -/
namespace K74
open PySem PySem.Spec PyProof.Rows L2 PD
@[simp] theorem n8 : f8.N.length = 7 := rfl
def fm (t : Ex) : Int × List (Ex × Int) := ((ga t 1).1, (asc (isort ltX (ga t 1).2) []).filter fun q => !(q.2 == 0))
theorem r8 (t : Ex) (g : G) (n : Nat) (hn : t.dep ≤ n) (hk : t.nk) (hd : t.dep ≤ 50) (hm : t.mag < 2 ^ 64) (hl : t.lv < 1000000) : (runF P.T (n + 1) 8 [t.d] g).w fun y g' => ∃ k, y = .tup [.int (fm t).1, .ref k] ∧ g'[k]? = some (.lst ((fm t).2.map rP)) ∧ Gr g g' := by
  rw [run_er (F := f8) rfl e8 rfl]
  have ha : (g ++ [DO.lst [], DO.lst []])[g.length]? = some (.lst []) := by
    rw [List.getElem?_append_right (Nat.le_refl _), Nat.sub_self]; rfl
  have c7 := r7 t 1 g.length [] (g ++ [DO.lst [], DO.lst []]) n hn (by simpa using hm) ha (by simpa using hl)
  simp -implicitDefEqProofs [R.w, fin_w, b8, startD, n8, sizeLine_eq, c7, ok_w]
  have kk := fun q hq => ga_nk t 1 hk q hq
  have hk2 : ∀ q ∈ (ga t 1).2, q.1.nk ∧ q.1.dep ≤ 50 := fun q hq => ⟨(kk q hq).1, Nat.le_trans (kk q hq).2 hd⟩
  have gl := Nat.lt_of_le_of_lt (ga_len t 1) hl
  have hA : (g ++ [DO.lst ((ga t 1).2.map prD), DO.lst []])[g.length]? = some (.lst ((ga t 1).2.map prD)) := by
    rw [List.getElem?_append_right (Nat.le_refl _), Nat.sub_self]; rfl
  have hB : (g ++ [DO.lst ((ga t 1).2.map prD), DO.lst []])[g.length + 1]? = some (.lst []) := by
    rw [List.getElem?_append_right (by omega), show g.length + 1 - g.length = 1 from by omega]; rfl
  have hlen : (g ++ [DO.lst ((ga t 1).2.map prD), DO.lst []]).length = g.length + 2 := by simp
  have srt := sort_p (ga t 1).2 hA hk2
  rw [hlen] at srt
  refine x_for ?_
  simp only [w_blt, wa_cons, wa_nil, w_var]
  show (dSort (.ref g.length) (g ++ [DO.lst ((ga t 1).2.map prD), DO.lst []])).sat _ _
  rw [srt]
  have hS : (g ++ [DO.lst ((ga t 1).2.map prD), DO.lst []] ++ [DO.lst ((isort ltX (ga t 1).2).map prD)])[g.length + 2]? = some (.lst ((isort ltX (ga t 1).2).map prD)) := by
    rw [List.getElem?_append_right (by omega), hlen, Nat.sub_self]; rfl
  have hB2 : (g ++ [DO.lst ((ga t 1).2.map prD), DO.lst []] ++ [DO.lst ((isort ltX (ga t 1).2).map prD)])[g.length + 1]? = some (.lst []) := by
    rw [List.getElem?_append_left (by omega)]; exact hB
  refine ⟨(isort ltX (ga t 1).2).map prD, ?_, ?_⟩
  · show (match (g ++ [DO.lst ((ga t 1).2.map prD), DO.lst []] ++ [DO.lst ((isort ltX (ga t 1).2).map prD)])[g.length + 2]? with
      | some (.lst ds) => some ds
      | _ => none) = _
    rw [hS]
  · refine r8_loop (g.length) (g.length + 1) (g.length + 2) (ga t 1).2 hk2 gl g _ ((Gr.add _ _).trans (Gr.add _ _)) (by omega) (by omega) hB2 hS fun y4 y5 g' gr hb => ?_
    have al := asc_len (isort ltX (ga t 1).2) []
    have pl := (isort_perm (lt := ltX) (ga t 1).2).length_eq
    refine lt_w (d := .ref (g.length + 1)) (asc (isort ltX (ga t 1).2) []) rP rP (fun q => !(q.2 == 0)) (by simp at al; omega) ?_ ?_ (fun x g1 hx gr1 => ?_) fun g2 gr2 h2 => ?_
    · simp
    · show (match g'[g.length + 1]? with
        | some (.lst ds) => some ds
        | _ => none) = _
      rw [hb]
    · refine ⟨[some t.d, some (.ref g.length), some (.ref (g.length + 1)), some (.int (ga t 1).1), y4, y5, some (rP x)], rfl, ?_⟩
      simp -implicitDefEqProofs [R.w, rP, Gr.refl]
    · exact ⟨g'.length, ⟨rfl, rfl⟩, h2, gr.trans gr2⟩
end K74
set_option linter.all false
set_option maxRecDepth 100000
set_option maxHeartbeats 4000000
/-! k74: plain within, and plain. -/
namespace K74
open PySem PySem.Spec PyProof.Rows L2 PD
def oneF (q : Ex × Int) : Ex := if q.2 = 1 then q.1 else .tim q.2 q.1
def addF (a : Option Ex) (q : Ex × Int) : Option Ex := match a with
  | none => some (oneF q)
  | some e => some (.ad e (oneF q))
def pcs (c : Int) (F : List (Ex × Int)) : Ex := ((F.foldl addF (if c ≠ 0 ∨ F = [] then some (.num c) else none)).getD (.num 0))
def pf (u : Ex) : Ex := pcs (fm u).1 (fm u).2
def ip : Ex → Ex
  | .num i => .num i
  | .nam x => .nam x
  | .tim k a => .tim k (ip a)
  | .ad a b => .ad (ip a) (ip b)
  | .sb a b => .sb (ip a) (ip b)
  | .dv a k => (match pf (ip a) with
    | .num i => .num (i / k)
    | r => .dv r k)
  | .md a k => (match pf (ip a) with
    | .num i => .num (i % k)
    | r => .md r k)
def pl (t : Ex) : Ex := pf (ip t)
@[simp] theorem n9 : f9.N.length = 3 := rfl
@[simp] theorem n10 : f10.N.length = 7 := rfl
end K74
set_option linter.all false
set_option maxRecDepth 100000
set_option maxHeartbeats 4000000
/-! k74: plain within. -/
namespace K74
open PySem PySem.Spec PyProof.Rows L2 PD
/-- this call gives this value, the heap grown -/
def Gv (n i : Nat) (a r : D) : Prop := ∀ g, (runF P.T n i [a] g).w fun y g' => y = r ∧ Gr g g'
theorem r9_num (n : Nat) (i : Int) : Gv (n + 1) 9 (Ex.num i).d (Ex.num i).d := by
  intro g
  rw [run_er (F := f9) rfl e9 rfl]
  simp -implicitDefEqProofs [R.w, fin_w, b9, startD, n9, Ex.d, sizeLine_eq, in2, Gr.refl]
theorem r9_nam (n : Nat) (i : Str) : Gv (n + 1) 9 (Ex.nam i).d (Ex.nam i).d := by
  intro g
  rw [run_er (F := f9) rfl e9 rfl]
  simp -implicitDefEqProofs [R.w, fin_w, b9, startD, n9, Ex.d, sizeLine_eq, in2, Gr.refl]
theorem r9_add (n : Nat) (a b a' b' : D) (h1 : Gv n 9 a a') (h2 : Gv n 9 b b') : Gv (n + 1) 9 (.tup [.str "add", a, b]) (.tup [.str "add", a', b']) := by
  intro g
  rw [run_er (F := f9) rfl e9 rfl]
  simp -implicitDefEqProofs [R.w, fin_w, b9, startD, n9, sizeLine_eq, in2, eqS ok_add ok_times]
  refine w_mono (h1 g) fun y g1 ⟨e1, gr1⟩ => ?_
  subst e1
  refine w_mono (h2 g1) fun y g2 ⟨e2, gr2⟩ => ?_
  exact ⟨⟨rfl, e2⟩, gr1.trans gr2⟩
theorem r9_sub (n : Nat) (a b a' b' : D) (h1 : Gv n 9 a a') (h2 : Gv n 9 b b') : Gv (n + 1) 9 (.tup [.str "sub", a, b]) (.tup [.str "sub", a', b']) := by
  intro g
  rw [run_er (F := f9) rfl e9 rfl]
  simp -implicitDefEqProofs [R.w, fin_w, b9, startD, n9, sizeLine_eq, in2, eqS ok_sub ok_times]
  refine w_mono (h1 g) fun y g1 ⟨e1, gr1⟩ => ?_
  subst e1
  refine w_mono (h2 g1) fun y g2 ⟨e2, gr2⟩ => ?_
  exact ⟨⟨rfl, e2⟩, gr1.trans gr2⟩
theorem r9_tim (n : Nat) (k : Int) (a a' : D) (h1 : Gv n 9 a a') : Gv (n + 1) 9 (.tup [.str "times", .int k, a]) (.tup [.str "times", .int k, a']) := by
  intro g
  rw [run_er (F := f9) rfl e9 rfl]
  simp -implicitDefEqProofs [R.w, fin_w, b9, startD, n9, sizeLine_eq, in2, eqS ok_times ok_times]
  refine w_mono (h1 g) fun y g1 ⟨e1, gr1⟩ => ?_
  exact ⟨e1, gr1⟩
end K74
set_option linter.all false
set_option maxRecDepth 100000
set_option maxHeartbeats 4000000
/-! k74: plain within: div and mod. -/
namespace K74
open PySem PySem.Spec PyProof.Rows L2 PD
theorem w0 (e : Ex) {g : G} {Q : D → G → Prop} {Ex : Str → Fs → G → Prop} : (dIdx e.d (.int 0) g).sat Q Ex = Q (.str (word e)) g := by cases e <;> exact ix0
theorem ok_word (e : Ex) : PyData.strOk (word e) = true := by cases e <;> first | exact ok_number | exact ok_name | exact ok_add | exact ok_sub | exact ok_times | exact ok_div | exact ok_mod
def isN : Ex → Bool
  | .num _ => true
  | _ => false
theorem word_num (e : Ex) : (word e == "number") = isN e := by
  cases e <;> first | decide +kernel | rfl
theorem w_isN (e : Ex) {g : G} {Q : D → G → Prop} {Ex : Str → Fs → G → Prop} : (cmpD .Eq (.str (word e)) (.str "number") g).sat Q Ex = Q (.bl (isN e)) g := by
  rw [eqS (ok_word e) ok_number, word_num]
def dvE (r : Ex) (k : Int) : Ex := match r with
  | .num i => .num (i / k)
  | r => .dv r k
def mdE (r : Ex) (k : Int) : Ex := match r with
  | .num i => .num (i % k)
  | r => .md r k
theorem dvE_no {r : Ex} (h : isN r = false) (k : Int) : dvE r k = .dv r k := by cases r <;> first | rfl | cases h
theorem mdE_no {r : Ex} (h : isN r = false) (k : Int) : mdE r k = .md r k := by cases r <;> first | rfl | cases h
theorem isN_yes {r : Ex} (h : isN r = true) : ∃ i, r = .num i := by cases r <;> first | exact ⟨_, rfl⟩ | cases h
theorem r9_dv (n : Nat) (a : D) (r : Ex) (k : Int) (hk : divOk k = true) (h1 : Gv n 10 a r.d) : Gv (n + 1) 9 (.tup [.str "div", a, .int k]) (dvE r k).d := by
  intro g
  rw [run_er (F := f9) rfl e9 rfl]
  simp -implicitDefEqProofs [R.w, fin_w, b9, startD, n9, sizeLine_eq, in2, eqS ok_div ok_times, eqS ok_div ok_div]
  refine w_mono (h1 g) fun y g1 ⟨e1, gr1⟩ => ?_
  subst e1
  cases hn : isN r with
  | true =>
    obtain ⟨i, rfl⟩ := isN_yes hn
    simp -implicitDefEqProofs [Ex.d, sizeLine_eq, hk, dvE, gr1, eqS ok_number ok_number]
  | false =>
    simp -implicitDefEqProofs [w0, w_isN, hn, sizeLine_eq, dvE_no hn, Ex.d, gr1]
theorem r9_md (n : Nat) (a : D) (r : Ex) (k : Int) (hk : 0 < k) (h1 : Gv n 10 a r.d) : Gv (n + 1) 9 (.tup [.str "mod", a, .int k]) (mdE r k).d := by
  intro g
  rw [run_er (F := f9) rfl e9 rfl]
  simp -implicitDefEqProofs [R.w, fin_w, b9, startD, n9, sizeLine_eq, in2, eqS ok_mod ok_times, eqS ok_mod ok_div]
  refine w_mono (h1 g) fun y g1 ⟨e1, gr1⟩ => ?_
  subst e1
  cases hn : isN r with
  | true =>
    obtain ⟨i, rfl⟩ := isN_yes hn
    simp -implicitDefEqProofs [Ex.d, sizeLine_eq, hk, mdE, gr1, eqS ok_number ok_number]
  | false =>
    simp -implicitDefEqProofs [w0, w_isN, hn, sizeLine_eq, mdE_no hn, Ex.d, gr1]
end K74
set_option linter.all false
set_option maxRecDepth 100000
set_option maxHeartbeats 4000000
/-! k74: plain. -/
namespace K74
open PySem PySem.Spec PyProof.Rows L2 PD
section
variable {Qn : Sl → G → Prop} {Qr : D → G → Prop} {Es : Str → Fs → Sl → G → Prop} {cl : Nat → List D → G → PD.R D} {δ : Sl} {g : G} {p p' : Pos}
theorem x_unp {tg : Tg} {e : E} (he : (ev cl e δ g).sat (fun d g1 => ∃ δ1, tg.put g1 d δ = some δ1 ∧ Qn δ1 g1) fun c fs g1 => Es c fs δ g1) : (exe cl (.unp tg e p) δ g).sat Qn Qr Es := by
  simp only [exe, toS_w]
  refine PD.R.sat_mono he (fun x g1 ⟨δ1, h1, h2⟩ => ?_) fun _ _ _ z => z
  rw [h1]
  exact h2
end
theorem is_non {x : D} {g : G} {Q : D → G → Prop} {Ex : Str → Fs → G → Prop} : (cmpD .Is x .non g).sat Q Ex = Q (.bl (isNon x)) g := by
  show Q (.bl (xor false (isNon x))) g = _
  rw [Bool.false_xor]
theorem eqNilR {g : G} {a b : Nat} (L : List (Ex × Int)) (ha : g[a]? = some (.lst (L.map rP))) (hb : g[b]? = some (.lst [])) (h : ∀ q ∈ L, q.1.nk ∧ q.1.dep ≤ 50) {Q : D → G → Prop} {Ex : Str → Fs → G → Prop} : (cmpD .Eq (.ref a) (.ref b) g).sat Q Ex = Q (.bl L.isEmpty) g := by
  have hs : SeqAt.shaped (.list (L.map qP)) = true := by
    obtain ⟨h1, h2⟩ := rows_s L h
    unfold SeqAt.shaped
    rw [Bool.and_eq_true, decide_eq_true_iff]
    exact ⟨h1, by simp [PyData.depth]; omega⟩
  have e := eqNil ha hb (rows_p g L fun q hq => (h q hq).2) hs
  show (ofB (dEq (.ref a) (.ref b) g) g).sat Q Ex = _
  rw [e]
  show Q (.bl (L.map rP).isEmpty) g = _
  rw [show (L.map rP).isEmpty = L.isEmpty from by cases L <;> rfl]
def oD : Option Ex → D
  | none => .non
  | some e => e.d
theorem non_oD (o : Option Ex) : isNon (oD o) = o.isNone := by
  cases o with
  | none => rfl
  | some e => cases e <;> rfl
def s10 : Ss := (.cons
    (.asg 6 PD.e0 p0 (.ife (.cmp .Eq (.var 4 PD.e0 p0) (.num 1 0 p0) p0) (.var 5 PD.e0 p0) (.tup (.cons (.txt "times" 0 p0) (.cons (.var 4 PD.e0 p0) (.cons (.var 5 PD.e0 p0) .nil))) 0 p0) p0) p0)
    (.cons
    (.asg 3 PD.e0 p0 (.ife (.cmp .Is (.var 3 PD.e0 p0) (.non 0 p0) p0) (.var 6 PD.e0 p0) (.tup (.cons (.txt "add" 0 p0) (.cons (.var 3 PD.e0 p0) (.cons (.var 6 PD.e0 p0) .nil))) 0 p0) p0) p0)
    .nil))
theorem s10_w {cl : Nat → List D → G → PD.R D} {x0 x1 x2 x6 : Option D} (q : Ex × Int) (o : Option Ex) (g : G) {Qr : D → G → Prop} {Es : Str → Fs → Sl → G → Prop} :
    (exes cl s10 [x0, x1, x2, some (oD o), some (.int q.2), some q.1.d, x6] g).sat (fun δ' g' => g' = g ∧ δ' = [x0, x1, x2, some (oD (addF o q)), some (.int q.2), some q.1.d, some (oneF q).d]) Qr Es := by
  have h0 : PD.isNon D.non = true := rfl
  have h : ∀ u : Ex, PD.isNon u.d = false := fun u => non_oD (some u)
  by_cases e : q.2 = 1
  · cases o with
    | none => simp -implicitDefEqProofs [s10, is_non, h0, e, sizeLine_eq, addF, oneF, oD]
    | some u => simp -implicitDefEqProofs [s10, is_non, h, e, sizeLine_eq, addF, oneF, oD, Ex.d]
  · cases o with
    | none => simp -implicitDefEqProofs [s10, is_non, h0, e, sizeLine_eq, addF, oneF, oD, Ex.d]
    | some u => simp -implicitDefEqProofs [s10, is_non, h, e, sizeLine_eq, addF, oneF, oD, Ex.d]
end K74
set_option linter.all false
set_option maxRecDepth 100000
set_option maxHeartbeats 4000000
/-! k74: plain. -/
namespace K74
open PySem PySem.Spec PyProof.Rows L2 PD
theorem r10_loop {cl : Nat → List D → G → PD.R D} {x0 x1 x2 x4 x5 x6 : Option D} (k : Nat) (F : List (Ex × Int)) (o : Option Ex) (g : G) (hg : g[k]? = some (.lst (F.map rP))) (hl : F.length < 1000000)
    {Qn : Sl → G → Prop} {Qr : D → G → Prop} {Es : Str → Fs → Sl → G → Prop} (hq : ∀ y4 y5 y6, Qn [x0, x1, x2, some (oD (F.foldl addF o)), y4, y5, y6] g) :
    (forS (wkSeq (.ref k)) (.tup [(.name 4 PD.e0 p0), (.name 5 PD.e0 p0)] 0 p0) (exes cl s10) FUEL 0 [x0, x1, x2, some (oD o), x4, x5, x6] g).sat Qn Qr Es := by
  refine for_l F rP (fun i δ gi => gi = g ∧ ∃ y4 y5 y6, δ = [x0, x1, x2, some (oD ((F.take i).foldl addF o)), y4, y5, y6]) (by omega) (fun i δ gi ⟨e, _⟩ => e ▸ seq_ref hg) (fun i hlt δ gi ⟨egi, y4, y5, y6, hδ⟩ => ?_) (fun δ gi ⟨egi, y4, y5, y6, hδ⟩ => ?_) _ g ⟨rfl, x4, x5, x6, rfl⟩
  · subst hδ
    subst egi
    refine ⟨[x0, x1, x2, some (oD ((F.take i).foldl addF o)), some (.int F[i].2), some F[i].1.d, y6], rfl, ?_⟩
    refine S_mono (s10_w F[i] _ gi) (fun δ' g' ⟨e1, e2⟩ => ?_) (fun _ _ z => z) fun _ _ _ _ z => z
    subst e1
    refine ⟨rfl, some (.int F[i].2), some F[i].1.d, some (oneF F[i]).d, ?_⟩
    rw [e2, List.take_succ_eq_append_getElem hlt, List.foldl_append]
    rfl
  · subst hδ
    subst egi
    rw [List.take_length]
    exact hq y4 y5 y6
theorem fm_ok (u : Ex) (hk : u.nk) (hd : u.dep ≤ 50) : ∀ q ∈ (fm u).2, q.1.nk ∧ q.1.dep ≤ 50 := fun q hq => by
  have hq := (List.mem_filter.mp hq).1
  exact asc_mem (isort ltX (ga u 1).2) (fun e => e.nk ∧ e.dep ≤ 50) (fun r hr => by
    have := ga_nk u 1 hk r ((isort_perm _).mem_iff.mp hr)
    exact ⟨this.1, Nat.le_trans this.2 hd⟩) q hq
theorem fm_len (u : Ex) : (fm u).2.length ≤ u.lv := by
  have h1 := List.length_filter_le (fun q : Ex × Int => !(q.2 == 0)) (asc (isort ltX (ga u 1).2) [])
  have h2 := asc_len (isort ltX (ga u 1).2) []
  have h3 := (isort_perm (lt := ltX) (ga u 1).2).length_eq
  have h4 := ga_len u 1
  simp only [List.length_nil] at h2
  show (List.filter _ _).length ≤ _
  omega
/-- the fold starts with a tree, or there is a first piece -/
theorem pf_some (c : Int) (F : List (Ex × Int)) : F.foldl addF (if c ≠ 0 ∨ F = [] then some (.num c) else none) = some (pcs c F) := by
  unfold pcs
  have h : ∀ (F : List (Ex × Int)) (e : Ex), ∃ r, F.foldl addF (some e) = some r := fun F => by
    induction F with
    | nil => exact fun e => ⟨e, rfl⟩
    | cons q F ih => exact fun e => ih _
  split
  · obtain ⟨r, hr⟩ := h F (.num c)
    rw [hr]; rfl
  · rename_i hn
    cases F with
    | nil => exact absurd (Or.inr rfl) hn
    | cons q F =>
      obtain ⟨r, hr⟩ := h F (oneF q)
      have : List.foldl addF none (q :: F) = some r := hr
      rw [this]; rfl
structure Fit (u : Ex) : Prop where
  nk : u.nk
  dep : u.dep ≤ 50
  mag : u.mag < 2 ^ 64
  lv : u.lv < 1000000
theorem s8_10 : b10 = .cons (.unp (.tup [(.name 1 PD.e0 p0), (.name 2 PD.e0 p0)] 0 p0) (.call 8 PD.e0 p0 (.cons (.call 9 PD.e0 p0 (.cons (.var 0 PD.e0 p0) .nil) p0) .nil) p0) p0) (.cons
  (.asg 3 PD.e0 p0 (.ife (.bop false (.cons (.cmp .NotEq (.var 1 PD.e0 p0) (.num 0 0 p0) p0) (.cons (.cmp .Eq (.var 2 PD.e0 p0) (.lst .nil p0) p0) .nil)) p0) (.tup (.cons (.txt "number" 0 p0) (.cons (.var 1 PD.e0 p0) .nil)) 0 p0) (.non 0 p0) p0) p0)
  (.cons (.forr (.tup [(.name 4 PD.e0 p0), (.name 5 PD.e0 p0)] 0 p0) (.seq (.var 2 PD.e0 p0)) s10 p0) (.cons (.ret (.var 3 PD.e0 p0) p0) .nil))) := rfl
theorem r10 (n : Nat) (a : D) (u : Ex) (hf : Fit u) (hn : u.dep + 1 ≤ n) (h9 : Gv n 9 a u.d) : Gv (n + 1) 10 a (pf u).d := by
  intro g
  obtain ⟨m, rfl⟩ : ∃ m, n = m + 1 := ⟨n - 1, by omega⟩
  rw [run_er (F := f10) rfl e10 rfl]
  rw [s8_10]
  simp only [R.w, fin_w, startD, n10, x_cons]
  refine x_unp ?_
  simp -implicitDefEqProofs only [w_call, wa_cons, wa_nil, w_var, List.map, List.replicate, List.length, List.cons_append, List.nil_append, List.getElem?_cons_zero, Option.join_some, some_w]
  refine w_mono (h9 g) fun y g1 ⟨e1, gr1⟩ => ?_
  subst e1
  refine w_mono (r8 u g1 m (by omega) hf.nk hf.dep hf.mag hf.lv) fun y g2 ⟨k, e2, hk, gr2⟩ => ?_
  subst e2
  refine ⟨[some a, some (.int (fm u).1), some (.ref k), none, none, none, none], rfl, ?_⟩
  have hk1 : (g2 ++ [DO.lst []])[k]? = some (.lst ((fm u).2.map rP)) := at_old hk
  have hn1 : (g2 ++ [DO.lst []])[g2.length]? = some (.lst []) := at_new
  have en : ∀ {Q : D → G → Prop} {Ex : Str → Fs → G → Prop}, (cmpD .Eq (.ref k) (.ref g2.length) (g2 ++ [DO.lst []])).sat Q Ex = Q (.bl (fm u).2.isEmpty) (g2 ++ [DO.lst []]) := fun {Q Ex} => eqNilR _ hk1 hn1 (fm_ok u hf.nk hf.dep)
  have done : ∀ (o : Option Ex) (g3 : G), g3[k]? = some (.lst ((fm u).2.map rP)) → Gr g2 g3 → o = (if (fm u).1 ≠ 0 ∨ (fm u).2 = [] then some (.num (fm u).1) else none) →
      (exe (runF P.T (m + 1)) (.forr (.tup [(.name 4 PD.e0 p0), (.name 5 PD.e0 p0)] 0 p0) (.seq (.var 2 PD.e0 p0)) s10 p0) [some a, some (.int (fm u).1), some (.ref k), some (oD o), none, none, none] g3).sat (fun δ g' => (exe (runF P.T (m + 1)) (.ret (.var 3 PD.e0 p0) p0) δ g').sat (fun δ g' => (exes (runF P.T (m + 1)) .nil δ g').sat (fun _ g' => D.non = (pf u).d ∧ Gr g g') (fun y g' => y = (pf u).d ∧ Gr g g') (fun c fs _ g' => No c fs g')) (fun y g' => y = (pf u).d ∧ Gr g g') (fun c fs _ g' => No c fs g')) (fun y g' => y = (pf u).d ∧ Gr g g') (fun c fs _ g' => No c fs g') := fun o g3 h3 gr3 ho => by
    rw [x_forE (x := .ref k) rfl (seq_ref h3)]
    refine r10_loop k (fm u).2 o g3 h3 (Nat.lt_of_le_of_lt (fm_len u) hf.lv) fun y4 y5 y6 => ?_
    subst ho
    rw [pf_some]
    exact ⟨rfl, (gr1.trans gr2).trans gr3⟩
  by_cases hc : (fm u).1 = 0
  · by_cases hF : (fm u).2 = []
    · have := done (some (.num (fm u).1)) _ hk1 (Gr.add _ _) (by rw [if_pos (.inr hF)])
      simp -implicitDefEqProofs only [oD, Ex.d] at this
      simp -implicitDefEqProofs [en, hc, hF, sizeLine_eq]
      simpa -implicitDefEqProofs [hc] using this
    · have := done none _ hk1 (Gr.add _ _) (by rw [if_neg (by simp [hc, hF])])
      simp -implicitDefEqProofs only [oD] at this
      simp -implicitDefEqProofs [en, hc, hF, sizeLine_eq]
      simpa -implicitDefEqProofs [hc] using this
  · have := done (some (.num (fm u).1)) _ hk (Gr.refl _) (by rw [if_pos (.inl hc)])
    simp -implicitDefEqProofs only [oD, Ex.d] at this
    simp -implicitDefEqProofs [hc, sizeLine_eq]
    simpa -implicitDefEqProofs using this
end K74
set_option linter.all false
set_option maxRecDepth 100000
set_option maxHeartbeats 4000000
/-! k74: the plain law of plain forms: the worth is kept, plain of plain is itself, bounds. -/
namespace K74
open PySem PySem.Spec PyProof.Rows L2 PD
section
variable (ρ : Str → Int)
def wv : Ex → Int
  | .num i => i
  | .nam x => ρ x
  | .ad a b => wv a + wv b
  | .sb a b => wv a - wv b
  | .tim k a => k * wv a
  | .dv a k => wv a / k
  | .md a k => wv a % k
def sm : List (Ex × Int) → Int
  | [] => 0
  | q :: L => q.2 * wv ρ q.1 + sm L
theorem sm_app : ∀ L M : List (Ex × Int), sm ρ (L ++ M) = sm ρ L + sm ρ M
  | [], M => by simp [sm]
  | q :: L, M => by simp only [List.cons_append, sm, sm_app L M]; omega
theorem sm_perm {L M : List (Ex × Int)} (h : L.Perm M) : sm ρ L = sm ρ M := by
  induction h with
  | nil => rfl
  | cons x _ ih => simp only [sm, ih]
  | swap x y l => simp only [sm]; omega
  | trans _ _ a b => exact a.trans b
theorem sm_add (p : Ex) (t : Int) : ∀ M : List (Ex × Int), sm ρ (addA M p t) = sm ρ M + t * wv ρ p
  | [] => by simp [addA, sm]
  | q :: M => by
    unfold addA
    split
    · rename_i e
      subst e
      simp only [sm, Int.add_mul]; omega
    · simp only [sm, sm_add p t M]; omega
theorem sm_asc : ∀ L M : List (Ex × Int), sm ρ (asc L M) = sm ρ M + sm ρ L
  | [], M => by simp [asc, sm]
  | q :: L, M => by
    show sm ρ (asc L (addA M q.1 q.2)) = _
    rw [sm_asc L, sm_add]
    simp only [sm]
    omega
theorem sm_nz : ∀ L : List (Ex × Int), sm ρ (L.filter fun q => !(q.2 == 0)) = sm ρ L
  | [] => rfl
  | q :: L => by
    by_cases e : q.2 = 0
    · rw [List.filter_cons_of_neg (by simp [e]), sm_nz L]
      simp [sm, e]
    · rw [List.filter_cons_of_pos (by simp [e])]
      simp only [sm, sm_nz L]
theorem ga_v : ∀ (t : Ex) (m : Int), (ga t m).1 + sm ρ (ga t m).2 = m * wv ρ t := by
  intro t
  induction t with
  | num i => intro m; simp [ga, sm, wv]
  | nam x => intro m; simp [ga, sm, wv]
  | ad a b ha hb =>
    intro m
    have h1 := ha m
    have h2 := hb m
    simp only [ga, wv, sm_app, Int.mul_add]
    omega
  | sb a b ha hb =>
    intro m
    have h1 := ha m
    have h2 := hb (-m)
    simp only [ga, wv, sm_app, Int.mul_sub]
    rw [Int.neg_mul] at h2
    omega
  | tim k a ha => intro m; have := ha (m * k); simp only [ga, wv, ← Int.mul_assoc]; exact this
  | dv a k ha => intro m; simp [ga, sm, wv]
  | md a k ha => intro m; simp [ga, sm, wv]
theorem one_v (q : Ex × Int) : wv ρ (oneF q) = q.2 * wv ρ q.1 := by
  unfold oneF
  split
  · rename_i e; rw [e, Int.one_mul]
  · rfl
theorem fold_v : ∀ (F : List (Ex × Int)) (e : Ex), ∃ r, F.foldl addF (some e) = some r ∧ wv ρ r = wv ρ e + sm ρ F
  | [], e => ⟨e, rfl, by simp [sm]⟩
  | q :: F, e => by
    obtain ⟨r, h1, h2⟩ := fold_v F (.ad e (oneF q))
    refine ⟨r, h1, ?_⟩
    rw [h2]
    simp only [wv, one_v, sm]
    omega
theorem pcs_v (c : Int) (F : List (Ex × Int)) : wv ρ (pcs c F) = c + sm ρ F := by
  unfold pcs
  split
  · obtain ⟨r, h1, h2⟩ := fold_v ρ F (.num c)
    rw [h1]; exact h2
  · rename_i h
    rw [not_or] at h
    have hc : c = 0 := Decidable.not_not.mp h.1
    cases F with
    | nil => exact absurd rfl h.2
    | cons q F =>
      obtain ⟨r, h1, h2⟩ := fold_v ρ F (oneF q)
      have : List.foldl addF none (q :: F) = some r := h1
      rw [this]
      show wv ρ r = _
      rw [h2, one_v, hc]
      simp only [sm]
      omega
theorem pf_v (u : Ex) : wv ρ (pf u) = wv ρ u := by
  unfold pf
  rw [pcs_v]
  have := ga_v ρ u 1
  rw [Int.one_mul] at this
  show (ga u 1).1 + sm ρ (List.filter _ _) = _
  rw [sm_nz, sm_asc, sm_perm ρ (isort_perm _)]
  simp only [sm]
  omega
theorem ip_dv (a : Ex) (k : Int) : ip (.dv a k) = dvE (pf (ip a)) k := rfl
theorem ip_md (a : Ex) (k : Int) : ip (.md a k) = mdE (pf (ip a)) k := rfl
theorem dvE_v (r : Ex) (k : Int) : wv ρ (dvE r k) = wv ρ r / k := by cases r <;> rfl
theorem mdE_v (r : Ex) (k : Int) : wv ρ (mdE r k) = wv ρ r % k := by cases r <;> rfl
theorem ip_v : ∀ t : Ex, wv ρ (ip t) = wv ρ t
  | .num i => rfl
  | .nam x => rfl
  | .ad a b => by simp only [ip, wv, ip_v a, ip_v b]
  | .sb a b => by simp only [ip, wv, ip_v a, ip_v b]
  | .tim k a => by simp only [ip, wv, ip_v a]
  | .dv a k => by rw [ip_dv, dvE_v, pf_v, ip_v a]; rfl
  | .md a k => by rw [ip_md, mdE_v, pf_v, ip_v a]; rfl
theorem pl_v (t : Ex) : wv ρ (pl t) = wv ρ t := by unfold pl; rw [pf_v, ip_v]
end
/-! ### plain of plain -/
def atm : Ex → Prop
  | .nam _ => True
  | .dv _ _ => True
  | .md _ _ => True
  | _ => False
theorem ga_atm : ∀ (t : Ex) (m : Int), ∀ q ∈ (ga t m).2, atm q.1 := by
  intro t
  induction t with
  | num i => intro m q hq; simp [ga] at hq
  | nam x => intro m q hq; simp [ga] at hq; subst hq; exact trivial
  | dv a k ha => intro m q hq; simp [ga] at hq; subst hq; exact trivial
  | md a k ha => intro m q hq; simp [ga] at hq; subst hq; exact trivial
  | tim k a ha => intro m q hq; exact ha (m * k) q hq
  | ad a b ha hb => intro m q hq; exact (List.mem_append.mp hq).elim (ha m q) (hb m q)
  | sb a b ha hb => intro m q hq; exact (List.mem_append.mp hq).elim (ha m q) (hb (-m) q)
theorem atm_ga {p : Ex} (h : atm p) (m : Int) : ga p m = (0, [(p, m)]) := by cases p <;> first | rfl | cases h
theorem ga_one {q : Ex × Int} (h : atm q.1) : ga (oneF q) 1 = (0, [q]) := by
  obtain ⟨p, k⟩ := q
  unfold oneF
  split
  · rename_i e
    have e : k = 1 := e
    subst e
    exact atm_ga h 1
  · show ga p (1 * k) = _
    rw [Int.one_mul]
    exact atm_ga h k
theorem ga_fold : ∀ (F : List (Ex × Int)) (e : Ex), (∀ q ∈ F, atm q.1) → ∃ r, F.foldl addF (some e) = some r ∧ ga r 1 = ((ga e 1).1, (ga e 1).2 ++ F)
  | [], e, _ => ⟨e, rfl, by simp⟩
  | q :: F, e, h => by
    obtain ⟨r, h1, h2⟩ := ga_fold F (.ad e (oneF q)) fun x hx => h x (List.mem_cons_of_mem _ hx)
    refine ⟨r, h1, ?_⟩
    rw [h2]
    simp only [ga, ga_one (h q List.mem_cons_self)]
    simp
theorem ga_pcs (c : Int) (F : List (Ex × Int)) (h : ∀ q ∈ F, atm q.1) : ga (pcs c F) 1 = (c, F) := by
  unfold pcs
  split
  · obtain ⟨r, h1, h2⟩ := ga_fold F (.num c) h
    rw [h1]
    show ga r 1 = _
    rw [h2]
    simp [ga]
  · rename_i hn
    rw [not_or] at hn
    have hc : c = 0 := Decidable.not_not.mp hn.1
    cases F with
    | nil => exact absurd rfl hn.2
    | cons q F =>
      obtain ⟨r, h1, h2⟩ := ga_fold F (oneF q) fun x hx => h x (List.mem_cons_of_mem _ hx)
      have : List.foldl addF none (q :: F) = some r := h1
      rw [this]
      show ga r 1 = _
      rw [h2, ga_one (h q List.mem_cons_self), hc]
      rfl
theorem isort_id {α : Type} {lt : α → α → Bool} : ∀ {l : List α}, l.Pairwise (fun x y => lt y x = false) → isort lt l = l
  | [], _ => rfl
  | [x], _ => rfl
  | x :: y :: r, h => by
    rw [List.pairwise_cons] at h
    show insB lt x (isort lt (y :: r)) = _
    rw [isort_id h.2]
    show (if lt y x then _ else x :: y :: r) = _
    rw [h.1 y List.mem_cons_self]
    rfl
theorem asc_app : ∀ (F M : List (Ex × Int)), ((M ++ F).map (·.1)).Nodup → asc F M = M ++ F
  | [], M, _ => by simp [asc]
  | q :: F, M, h => by
    show asc F (addA M q.1 q.2) = _
    have hq : q.1 ∉ M.map (·.1) := fun z => by
      rw [List.map_append, List.map_cons, List.nodup_append] at h
      exact h.2.2 _ z _ List.mem_cons_self rfl
    rw [add_no q.1 q.2 M hq, asc_app F]
    · simp
    · simpa using h
def nz : Ex × Int → Bool := fun q => !(q.2 == 0)
theorem fm_srt (u : Ex) (hk : u.nk) : (fm u).2.Pairwise fun x y => ltX y x = false := by
  show (List.filter _ (asc (isort ltX (ga u 1).2) [])).Pairwise _
  rw [(asc_sortX (ga u 1).2 fun x hx => (ga_nk u 1 hk x hx).1).2]
  exact List.Pairwise.filter _ (isort_ok swoX _).1
theorem fm_nd (u : Ex) : ((fm u).2.map (·.1)).Nodup :=
  List.Nodup.sublist (List.Sublist.map _ List.filter_sublist) (nd_asc (isort ltX (ga u 1).2) [] List.nodup_nil)
theorem fm_key (u : Ex) {q : Ex × Int} (hq : q ∈ (fm u).2) : ∃ r ∈ (ga u 1).2, r.1 = q.1 := by
  have hq := (List.mem_filter.mp hq).1
  rcases (key_asc q.1 (isort ltX (ga u 1).2) []).mp (List.mem_map.mpr ⟨q, hq, rfl⟩) with z | z
  · obtain ⟨r, hr, e⟩ := List.mem_map.mp z
    exact ⟨r, (isort_perm _).mem_iff.mp hr, e⟩
  · exact absurd z (by simp)
theorem fm_atm (u : Ex) : ∀ q ∈ (fm u).2, atm q.1 := fun q hq => by
  obtain ⟨r, hr, e⟩ := fm_key u hq
  rw [← e]; exact ga_atm u 1 r hr
theorem fm_pf (u : Ex) (hk : u.nk) : fm (pf u) = fm u := by
  unfold pf
  have e := ga_pcs (fm u).1 (fm u).2 (fm_atm u)
  show ((ga (pcs (fm u).1 (fm u).2) 1).1, (asc (isort ltX (ga (pcs (fm u).1 (fm u).2) 1).2) []).filter _) = _
  rw [e]
  refine Prod.ext rfl ?_
  show (asc (isort ltX (fm u).2) []).filter _ = _
  rw [isort_id (fm_srt u hk), asc_app _ [] (by simpa using fm_nd u), List.nil_append]
  refine List.filter_eq_self.mpr fun q hq => ?_
  exact (List.mem_filter.mp hq).2
theorem pf_pf (u : Ex) (hk : u.nk) : pf (pf u) = pf u := by
  show pcs (fm (pf u)).1 (fm (pf u)).2 = _
  rw [fm_pf u hk]; rfl
/-- what holds of a constant, of each piece and is kept by ad and tim holds of the form -/
theorem fold_all (V : Ex → Prop) (hadd : ∀ a b, V a → V b → V (.ad a b)) : ∀ (F : List (Ex × Int)) (e : Ex), V e → (∀ q ∈ F, V (oneF q)) → ∃ r, F.foldl addF (some e) = some r ∧ V r
  | [], e, he, _ => ⟨e, rfl, he⟩
  | q :: F, e, he, h => fold_all V hadd F (.ad e (oneF q)) (hadd _ _ he (h q List.mem_cons_self)) fun x hx => h x (List.mem_cons_of_mem _ hx)
theorem pcs_all (V : Ex → Prop) (hadd : ∀ a b, V a → V b → V (.ad a b)) (c : Int) (F : List (Ex × Int)) (hc : V (.num c)) (h : ∀ q ∈ F, V (oneF q)) : V (pcs c F) := by
  unfold pcs
  split
  · obtain ⟨r, h1, h2⟩ := fold_all V hadd F (.num c) hc h
    rw [h1]; exact h2
  · rename_i hn
    rw [not_or] at hn
    cases F with
    | nil => exact absurd rfl hn.2
    | cons q F =>
      obtain ⟨r, h1, h2⟩ := fold_all V hadd F (oneF q) (h q List.mem_cons_self) fun x hx => h x (List.mem_cons_of_mem _ hx)
      have : List.foldl addF none (q :: F) = some r := h1
      rw [this]; exact h2
theorem one_all (V : Ex → Prop) (htim : ∀ k a, V a → V (.tim k a)) (q : Ex × Int) (h : V q.1) : V (oneF q) := by
  unfold oneF
  split
  · exact h
  · exact htim _ _ h
theorem pf_nk (u : Ex) (h : u.nk) : (pf u).nk :=
  pcs_all Ex.nk (fun a b ha hb => ⟨ha, hb⟩) _ _ trivial fun q hq => one_all Ex.nk (fun k a ha => ha) q (by
    obtain ⟨r, hr, e⟩ := fm_key u hq
    rw [← e]; exact (ga_nk u 1 h r hr).1)
theorem dvE_nk (r : Ex) (k : Int) (h : r.nk) : (dvE r k).nk := by cases r <;> first | exact trivial | exact h
theorem mdE_nk (r : Ex) (k : Int) (h : r.nk) : (mdE r k).nk := by cases r <;> first | exact trivial | exact h
theorem ip_nk : ∀ t : Ex, t.nk → (ip t).nk
  | .num _, h => h
  | .nam _, h => h
  | .ad a b, h => ⟨ip_nk a h.1, ip_nk b h.2⟩
  | .sb a b, h => ⟨ip_nk a h.1, ip_nk b h.2⟩
  | .tim _ a, h => ip_nk a h
  | .dv a k, h => by rw [ip_dv]; exact dvE_nk _ _ (pf_nk _ (ip_nk a h))
  | .md a k, h => by rw [ip_md]; exact mdE_nk _ _ (pf_nk _ (ip_nk a h))
theorem ip_pf (u : Ex) (h : ∀ q ∈ (ga u 1).2, ip q.1 = q.1) : ip (pf u) = pf u :=
  pcs_all (fun r => ip r = r) (fun a b ha hb => by simp only [ip]; rw [ha, hb]) _ _ rfl fun q hq => one_all (fun r => ip r = r) (fun k a ha => by simp only [ip]; rw [ha]) q (by
    obtain ⟨r, hr, e⟩ := fm_key u hq
    rw [← e]; exact h r hr)
theorem ga_fix : ∀ (t : Ex), t.nk → ∀ m, ∀ q ∈ (ga (ip t) m).2, ip q.1 = q.1 := by
  intro t
  induction t with
  | num i => intro _ m q hq; simp [ip, ga] at hq
  | nam x => intro _ m q hq; simp [ip, ga] at hq; subst hq; rfl
  | ad a b ha hb => intro h m q hq; exact (List.mem_append.mp hq).elim (ha h.1 m q) (hb h.2 m q)
  | sb a b ha hb => intro h m q hq; exact (List.mem_append.mp hq).elim (ha h.1 m q) (hb h.2 (-m) q)
  | tim k a ha => intro h m q hq; exact ha h (m * k) q hq
  | dv a k ha =>
    intro h m q hq
    rw [ip_dv] at hq
    cases hn : isN (pf (ip a)) with
    | true =>
      obtain ⟨i, e⟩ := isN_yes hn
      rw [e] at hq
      simp [dvE, ga] at hq
    | false =>
      rw [dvE_no hn] at hq
      simp [ga] at hq
      subst hq
      show ip (.dv _ _) = _
      rw [ip_dv, ip_pf (ip a) (ha h 1), pf_pf _ (ip_nk a h), dvE_no hn]
  | md a k ha =>
    intro h m q hq
    rw [ip_md] at hq
    cases hn : isN (pf (ip a)) with
    | true =>
      obtain ⟨i, e⟩ := isN_yes hn
      rw [e] at hq
      simp [mdE, ga] at hq
    | false =>
      rw [mdE_no hn] at hq
      simp [ga] at hq
      subst hq
      show ip (.md _ _) = _
      rw [ip_md, ip_pf (ip a) (ha h 1), pf_pf _ (ip_nk a h), mdE_no hn]
/-- plain of plain is itself -/
theorem ip_pl (t : Ex) (h : t.nk) : ip (pl t) = pl t := ip_pf (ip t) (ga_fix t h 1)
theorem pl_pl (t : Ex) (h : t.nk) : pl (pl t) = pl t := by
  show pf (ip (pl t)) = _
  rw [ip_pl t h]
  exact pf_pf _ (ip_nk t h)
end K74
set_option linter.all false
set_option maxRecDepth 100000
set_option maxHeartbeats 4000000
/-! k74: bounds. -/
namespace K74
open PySem PySem.Spec PyProof.Rows L2 PD
def wm : List (Ex × Int) → Nat
  | [] => 0
  | q :: L => q.2.natAbs * q.1.mag + wm L
theorem wm_app : ∀ L M : List (Ex × Int), wm (L ++ M) = wm L + wm M
  | [], M => by simp [wm]
  | q :: L, M => by simp only [List.cons_append, wm, wm_app L M]; omega
theorem wm_perm {L M : List (Ex × Int)} (h : L.Perm M) : wm L = wm M := by
  induction h with
  | nil => rfl
  | cons x _ ih => simp only [wm, ih]
  | swap x y l => simp only [wm]; omega
  | trans _ _ a b => exact a.trans b
theorem wm_add (p : Ex) (t : Int) : ∀ M : List (Ex × Int), wm (addA M p t) ≤ wm M + t.natAbs * p.mag
  | [] => by simp [addA, wm]
  | q :: M => by
    unfold addA
    split
    · rename_i e
      subst e
      simp only [wm]
      have h := Nat.mul_le_mul_right q.1.mag (Int.natAbs_add_le q.2 t)
      rw [Nat.add_mul] at h
      omega
    · have := wm_add p t M
      simp only [wm]; omega
theorem wm_asc : ∀ L M : List (Ex × Int), wm (asc L M) ≤ wm M + wm L
  | [], M => by simp [asc, wm]
  | q :: L, M => by
    have h1 := wm_asc L (addA M q.1 q.2)
    have h2 := wm_add q.1 q.2 M
    show wm (asc L (addA M q.1 q.2)) ≤ _
    simp only [wm]
    omega
theorem wm_nz (f : Ex × Int → Bool) : ∀ L : List (Ex × Int), wm (L.filter f) ≤ wm L
  | [] => Nat.le_refl _
  | q :: L => by
    have := wm_nz f L
    by_cases e : f q = true
    · rw [List.filter_cons_of_pos e]; simp only [wm]; omega
    · rw [List.filter_cons_of_neg e]; simp only [wm]; omega
theorem ga_m : ∀ (t : Ex) (m : Int), (ga t m).1.natAbs + wm (ga t m).2 ≤ m.natAbs * t.mag := by
  intro t
  induction t with
  | num i => intro m; simp only [ga, wm, Ex.mag, Int.natAbs_mul, Nat.add_zero]; exact Nat.mul_le_mul_left _ (Nat.le_max_right _ _)
  | nam x => intro m; simp [ga, wm, Ex.mag]
  | ad a b ha hb =>
    intro m
    have h1 := ha m
    have h2 := hb m
    have h3 := Int.natAbs_add_le (ga a m).1 (ga b m).1
    simp only [ga, wm_app, Ex.mag, Nat.mul_add]
    omega
  | sb a b ha hb =>
    intro m
    have h1 := ha m
    have h2 := hb (-m)
    rw [Int.natAbs_neg] at h2
    have h3 := Int.natAbs_add_le (ga a m).1 (ga b (-m)).1
    simp only [ga, wm_app, Ex.mag, Nat.mul_add]
    omega
  | tim k a ha =>
    intro m
    have h1 := ha (m * k)
    rw [Int.natAbs_mul, Nat.mul_assoc] at h1
    exact Nat.le_trans h1 (Nat.mul_le_mul_left _ (Nat.mul_le_mul_right _ (Nat.le_max_right _ _)))
  | dv a k ha => intro m; simp [ga, wm]
  | md a k ha => intro m; simp [ga, wm]
theorem one_m (q : Ex × Int) (h : q.2 ≠ 0) : (oneF q).mag = q.2.natAbs * q.1.mag := by
  unfold oneF
  split
  · rename_i e; rw [e]; simp
  · show max 1 q.2.natAbs * q.1.mag = _
    rw [Nat.max_eq_right (by omega)]
theorem fold_m : ∀ (F : List (Ex × Int)) (e : Ex), (∀ q ∈ F, q.2 ≠ 0) → ∃ r, F.foldl addF (some e) = some r ∧ r.mag = e.mag + wm F
  | [], e, _ => ⟨e, rfl, by simp [wm]⟩
  | q :: F, e, h => by
    obtain ⟨r, h1, h2⟩ := fold_m F (.ad e (oneF q)) fun x hx => h x (List.mem_cons_of_mem _ hx)
    refine ⟨r, h1, ?_⟩
    rw [h2]
    simp only [Ex.mag, one_m q (h q List.mem_cons_self), wm]
    omega
theorem pcs_m (c : Int) (F : List (Ex × Int)) (h : ∀ q ∈ F, q.2 ≠ 0) : (pcs c F).mag ≤ max 1 (c.natAbs + wm F) := by
  unfold pcs
  split
  · rename_i hc
    obtain ⟨r, h1, h2⟩ := fold_m F (.num c) h
    rw [h1]
    show r.mag ≤ _
    rw [h2]
    show max 1 c.natAbs + wm F ≤ _
    rcases hc with hc | hc
    · omega
    · subst hc; simp only [wm]; omega
  · rename_i hn
    rw [not_or] at hn
    cases F with
    | nil => exact absurd rfl hn.2
    | cons q F =>
      obtain ⟨r, h1, h2⟩ := fold_m F (oneF q) fun x hx => h x (List.mem_cons_of_mem _ hx)
      have : List.foldl addF none (q :: F) = some r := h1
      rw [this]
      show r.mag ≤ _
      rw [h2, one_m q (h q List.mem_cons_self)]
      simp only [wm]
      omega
theorem fm_nz (u : Ex) : ∀ q ∈ (fm u).2, q.2 ≠ 0 := fun q hq => by
  have := (List.mem_filter.mp hq).2
  simpa using this
theorem pf_m (u : Ex) : (pf u).mag ≤ u.mag := by
  have h1 := pcs_m (fm u).1 (fm u).2 (fm_nz u)
  have h2 := ga_m u 1
  have h3 := wm_nz (fun q : Ex × Int => !(q.2 == 0)) (asc (isort ltX (ga u 1).2) [])
  have h4 := wm_asc (isort ltX (ga u 1).2) []
  have h5 := wm_perm (isort_perm (lt := ltX) (ga u 1).2)
  have h6 := mag1 u
  have h7 : wm (fm u).2 ≤ wm (asc (isort ltX (ga u 1).2) []) := h3
  have h8 : (fm u).1 = (ga u 1).1 := rfl
  have h9 : wm ([] : List (Ex × Int)) = 0 := rfl
  rw [h8] at h1
  simp only [Int.natAbs_one, Nat.one_mul] at h2
  show (pcs _ _).mag ≤ _
  rw [h8]
  omega
/-- divisors between 1 and 100 -/
def Ex.kb : Ex → Prop
  | .num _ => True
  | .nam _ => True
  | .ad a b => a.kb ∧ b.kb
  | .sb a b => a.kb ∧ b.kb
  | .tim _ a => a.kb
  | .dv a k => a.kb ∧ 1 ≤ k ∧ k ≤ 100
  | .md a k => a.kb ∧ 1 ≤ k ∧ k ≤ 100
theorem kb_dvs : ∀ t : Ex, t.kb → t.dvs
  | .num _, _ => trivial
  | .nam _, _ => trivial
  | .ad a b, h => ⟨kb_dvs a h.1, kb_dvs b h.2⟩
  | .sb a b, h => ⟨kb_dvs a h.1, kb_dvs b h.2⟩
  | .tim _ a, h => kb_dvs a h
  | .dv a k, h => ⟨kb_dvs a h.1, h.2.1⟩
  | .md a k, h => ⟨kb_dvs a h.1, h.2.1⟩
theorem ga_kb : ∀ (t : Ex) (m : Int), t.kb → ∀ q ∈ (ga t m).2, q.1.kb := by
  intro t
  induction t with
  | num i => intro m _ q hq; simp [ga] at hq
  | nam x => intro m h q hq; simp [ga] at hq; subst hq; exact h
  | dv a k ha => intro m h q hq; simp [ga] at hq; subst hq; exact h
  | md a k ha => intro m h q hq; simp [ga] at hq; subst hq; exact h
  | tim k a ha => intro m h q hq; exact ha (m * k) h q hq
  | ad a b ha hb => intro m h q hq; exact (List.mem_append.mp hq).elim (ha m h.1 q) (hb m h.2 q)
  | sb a b ha hb => intro m h q hq; exact (List.mem_append.mp hq).elim (ha m h.1 q) (hb (-m) h.2 q)
theorem pf_kb (u : Ex) (h : u.kb) : (pf u).kb :=
  pcs_all Ex.kb (fun a b ha hb => ⟨ha, hb⟩) _ _ trivial fun q hq => one_all Ex.kb (fun k a ha => ha) q (by
    obtain ⟨r, hr, e⟩ := fm_key u hq
    rw [← e]; exact ga_kb u 1 h r hr)
theorem dvE_kb (r : Ex) (k : Int) (h : r.kb) (hk : 1 ≤ k ∧ k ≤ 100) : (dvE r k).kb := by cases r <;> first | exact trivial | exact ⟨h, hk⟩
theorem mdE_kb (r : Ex) (k : Int) (h : r.kb) (hk : 1 ≤ k ∧ k ≤ 100) : (mdE r k).kb := by cases r <;> first | exact trivial | exact ⟨h, hk⟩
theorem ip_kb : ∀ t : Ex, t.kb → (ip t).kb
  | .num _, h => h
  | .nam _, h => h
  | .ad a b, h => ⟨ip_kb a h.1, ip_kb b h.2⟩
  | .sb a b, h => ⟨ip_kb a h.1, ip_kb b h.2⟩
  | .tim _ a, h => ip_kb a h
  | .dv a k, h => by rw [ip_dv]; exact dvE_kb _ _ (pf_kb _ (ip_kb a h.1)) h.2
  | .md a k, h => by rw [ip_md]; exact mdE_kb _ _ (pf_kb _ (ip_kb a h.1)) h.2
theorem pl_kb (t : Ex) (h : t.kb) : (pl t).kb := pf_kb _ (ip_kb t h)
theorem pl_nk (t : Ex) (h : t.nk) : (pl t).nk := pf_nk _ (ip_nk t h)
theorem div_le (i k : Int) (hk : 1 ≤ k) : (i / k).natAbs ≤ i.natAbs := Int.natAbs_ediv_le_natAbs i k
theorem ip_m : ∀ t : Ex, t.kb → (ip t).mag ≤ t.mag
  | .num _, _ => Nat.le_refl _
  | .nam _, _ => Nat.le_refl _
  | .ad a b, h => Nat.add_le_add (ip_m a h.1) (ip_m b h.2)
  | .sb a b, h => Nat.add_le_add (ip_m a h.1) (ip_m b h.2)
  | .tim k a, h => Nat.mul_le_mul_left _ (ip_m a h)
  | .dv a k, h => by
    rw [ip_dv]
    have h1 := Nat.le_trans (pf_m (ip a)) (ip_m a h.1)
    cases hn : isN (pf (ip a)) with
    | false => rw [dvE_no hn]; exact h1
    | true =>
      obtain ⟨i, e⟩ := isN_yes hn
      rw [e] at h1 ⊢
      have h2 : max 1 i.natAbs ≤ a.mag := h1
      have h3 := div_le i k h.2.1
      show max 1 (i / k).natAbs ≤ a.mag
      omega
  | .md a k, h => by
    rw [ip_md]
    have h1 := Nat.le_trans (pf_m (ip a)) (ip_m a h.1)
    cases hn : isN (pf (ip a)) with
    | false =>
      rw [mdE_no hn]
      show max _ _ ≤ max _ _
      omega
    | true =>
      obtain ⟨i, e⟩ := isN_yes hn
      rw [e]
      have h2 := Int.emod_nonneg i (show k ≠ 0 by have := h.2.1; omega)
      have h3 := Int.emod_lt_of_pos i (show 0 < k by have := h.2.1; omega)
      have h4 := mag1 a
      show max 1 (i % k).natAbs ≤ max a.mag k.natAbs
      omega
/-- leaves -/
theorem one_lv (q : Ex × Int) (h : atm q.1) : (oneF q).lv = 1 := by
  have : q.1.lv = 1 := by revert h; cases q.1 <;> intro h <;> first | rfl | cases h
  unfold oneF
  split <;> exact this
theorem fold_lv : ∀ (F : List (Ex × Int)) (e : Ex), (∀ q ∈ F, atm q.1) → ∃ r, F.foldl addF (some e) = some r ∧ r.lv = e.lv + F.length
  | [], e, _ => ⟨e, rfl, rfl⟩
  | q :: F, e, h => by
    obtain ⟨r, h1, h2⟩ := fold_lv F (.ad e (oneF q)) fun x hx => h x (List.mem_cons_of_mem _ hx)
    refine ⟨r, h1, ?_⟩
    rw [h2]
    simp only [Ex.lv, one_lv q (h q List.mem_cons_self), List.length_cons]
    omega
theorem pcs_lv (c : Int) (F : List (Ex × Int)) (h : ∀ q ∈ F, atm q.1) : (pcs c F).lv ≤ F.length + 1 := by
  unfold pcs
  split
  · obtain ⟨r, h1, h2⟩ := fold_lv F (.num c) h
    rw [h1]
    show r.lv ≤ _
    rw [h2]
    show 1 + F.length ≤ _
    omega
  · rename_i hn
    rw [not_or] at hn
    cases F with
    | nil => exact absurd rfl hn.2
    | cons q F =>
      obtain ⟨r, h1, h2⟩ := fold_lv F (oneF q) fun x hx => h x (List.mem_cons_of_mem _ hx)
      have : List.foldl addF none (q :: F) = some r := h1
      rw [this]
      show r.lv ≤ _
      rw [h2, one_lv q (h q List.mem_cons_self), List.length_cons]
      omega
theorem pf_lv (u : Ex) : (pf u).lv ≤ u.lv + 1 := by
  have h1 := pcs_lv (fm u).1 (fm u).2 (fm_atm u)
  have h2 := fm_len u
  show (pcs _ _).lv ≤ _
  omega
theorem ip_lv : ∀ t : Ex, (ip t).lv ≤ t.lv
  | .num _ => Nat.le_refl _
  | .nam _ => Nat.le_refl _
  | .ad a b => Nat.add_le_add (ip_lv a) (ip_lv b)
  | .sb a b => Nat.add_le_add (ip_lv a) (ip_lv b)
  | .tim k a => ip_lv a
  | .dv a k => by rw [ip_dv]; cases pf (ip a) <;> exact Nat.le_refl 1
  | .md a k => by rw [ip_md]; cases pf (ip a) <;> exact Nat.le_refl 1
/-- depth -/
theorem fold_dep (B : Nat) : ∀ (F : List (Ex × Int)) (e : Ex) (i : Nat), e.dep ≤ B + i → (∀ q ∈ F, (oneF q).dep ≤ B) → ∃ r, F.foldl addF (some e) = some r ∧ r.dep ≤ B + i + F.length
  | [], e, i, he, _ => ⟨e, rfl, he⟩
  | q :: F, e, i, he, h => by
    have hq := h q List.mem_cons_self
    obtain ⟨r, h1, h2⟩ := fold_dep B F (.ad e (oneF q)) (i + 1) (by show max e.dep (oneF q).dep + 1 ≤ _; omega) fun x hx => h x (List.mem_cons_of_mem _ hx)
    exact ⟨r, h1, by rw [List.length_cons]; omega⟩
theorem pcs_dep (B : Nat) (c : Int) (F : List (Ex × Int)) (hB : 1 ≤ B) (h : ∀ q ∈ F, (oneF q).dep ≤ B) : (pcs c F).dep ≤ B + F.length := by
  unfold pcs
  split
  · obtain ⟨r, h1, h2⟩ := fold_dep B F (.num c) 0 hB h
    rw [h1]; exact h2
  · rename_i hn
    rw [not_or] at hn
    cases F with
    | nil => exact absurd rfl hn.2
    | cons q F =>
      obtain ⟨r, h1, h2⟩ := fold_dep B F (oneF q) 0 (h q List.mem_cons_self) fun x hx => h x (List.mem_cons_of_mem _ hx)
      have : List.foldl addF none (q :: F) = some r := h1
      rw [this]
      show r.dep ≤ _
      rw [List.length_cons]; omega
theorem one_dep (q : Ex × Int) : (oneF q).dep ≤ q.1.dep + 1 := by
  unfold oneF
  split
  · omega
  · exact Nat.le_refl _
theorem ga_dep : ∀ (t : Ex) (m : Int), ∀ q ∈ (ga t m).2, q.1.dep ≤ t.dep := by
  intro t
  induction t with
  | num i => intro m q hq; simp [ga] at hq
  | nam x => intro m q hq; simp [ga] at hq; subst hq; exact Nat.le_refl _
  | dv a k ha => intro m q hq; simp [ga] at hq; subst hq; exact Nat.le_refl _
  | md a k ha => intro m q hq; simp [ga] at hq; subst hq; exact Nat.le_refl _
  | tim k a ha => intro m q hq; exact Nat.le_succ_of_le (ha (m * k) q hq)
  | ad a b ha hb =>
    intro m q hq
    show q.1.dep ≤ max a.dep b.dep + 1
    rcases List.mem_append.mp hq with z | z
    · have := ha m q z; omega
    · have := hb m q z; omega
  | sb a b ha hb =>
    intro m q hq
    show q.1.dep ≤ max a.dep b.dep + 1
    rcases List.mem_append.mp hq with z | z
    · have := ha m q z; omega
    · have := hb (-m) q z; omega
theorem pf_dep (u : Ex) : (pf u).dep ≤ u.dep + 1 + u.lv := by
  have h1 := pcs_dep (u.dep + 1) (fm u).1 (fm u).2 (by omega) fun q hq => by
    obtain ⟨r, hr, e⟩ := fm_key u hq
    have := one_dep q
    have := ga_dep u 1 r hr
    rw [e] at this
    omega
  have h2 := fm_len u
  show (pcs _ _).dep ≤ _
  omega
theorem pw (a b : Nat) : 2 ^ a ≤ 2 ^ (max a b) ∧ 2 ^ b ≤ 2 ^ (max a b) := ⟨Nat.pow_le_pow_right (by omega) (Nat.le_max_left _ _), Nat.pow_le_pow_right (by omega) (Nat.le_max_right _ _)⟩
theorem lv2 : ∀ t : Ex, 2 * t.lv ≤ 2 ^ t.dep
  | .num _ => Nat.le_refl _
  | .nam _ => Nat.le_refl _
  | .ad a b => by
    have h1 := lv2 a
    have h2 := lv2 b
    have h3 := pw a.dep b.dep
    show 2 * (a.lv + b.lv) ≤ 2 ^ (max a.dep b.dep + 1)
    rw [Nat.pow_succ]; omega
  | .sb a b => by
    have h1 := lv2 a
    have h2 := lv2 b
    have h3 := pw a.dep b.dep
    show 2 * (a.lv + b.lv) ≤ 2 ^ (max a.dep b.dep + 1)
    rw [Nat.pow_succ]; omega
  | .tim _ a => by
    have h1 := lv2 a
    show 2 * a.lv ≤ 2 ^ (a.dep + 1)
    rw [Nat.pow_succ]; omega
  | .dv a _ => by
    have h1 := Nat.one_le_two_pow (n := a.dep)
    show 2 * 1 ≤ 2 ^ (a.dep + 1)
    rw [Nat.pow_succ]; omega
  | .md a _ => by
    have h1 := Nat.one_le_two_pow (n := a.dep)
    show 2 * 1 ≤ 2 ^ (a.dep + 1)
    rw [Nat.pow_succ]; omega
theorem dvE_dep (r : Ex) (k : Int) : (dvE r k).dep ≤ r.dep + 1 := by cases r <;> simp [dvE, Ex.dep]
theorem mdE_dep (r : Ex) (k : Int) : (mdE r k).dep ≤ r.dep + 1 := by cases r <;> simp [mdE, Ex.dep]
theorem ip_dep : ∀ t : Ex, 2 * (ip t).dep + 6 ≤ 2 ^ t.dep + 6 * t.dep
  | .num _ => Nat.le_refl _
  | .nam _ => Nat.le_refl _
  | .ad a b => by
    have h1 := ip_dep a
    have h2 := ip_dep b
    have h3 := pw a.dep b.dep
    show 2 * (max (ip a).dep (ip b).dep + 1) + 6 ≤ 2 ^ (max a.dep b.dep + 1) + 6 * (max a.dep b.dep + 1)
    rw [Nat.pow_succ]; omega
  | .sb a b => by
    have h1 := ip_dep a
    have h2 := ip_dep b
    have h3 := pw a.dep b.dep
    show 2 * (max (ip a).dep (ip b).dep + 1) + 6 ≤ 2 ^ (max a.dep b.dep + 1) + 6 * (max a.dep b.dep + 1)
    rw [Nat.pow_succ]; omega
  | .tim k a => by
    have h1 := ip_dep a
    show 2 * ((ip a).dep + 1) + 6 ≤ 2 ^ (a.dep + 1) + 6 * (a.dep + 1)
    rw [Nat.pow_succ]; omega
  | .dv a k => by
    have h1 := ip_dep a
    have h2 := lv2 a
    have h3 := ip_lv a
    have h4 := pf_dep (ip a)
    have h5 := dvE_dep (pf (ip a)) k
    rw [ip_dv]
    show _ ≤ 2 ^ (a.dep + 1) + 6 * (a.dep + 1)
    rw [Nat.pow_succ]; omega
  | .md a k => by
    have h1 := ip_dep a
    have h2 := lv2 a
    have h3 := ip_lv a
    have h4 := pf_dep (ip a)
    have h5 := mdE_dep (pf (ip a)) k
    rw [ip_md]
    show _ ≤ 2 ^ (a.dep + 1) + 6 * (a.dep + 1)
    rw [Nat.pow_succ]; omega
theorem pl_dep (t : Ex) : 2 * (pl t).dep + 4 ≤ 2 * 2 ^ t.dep + 6 * t.dep := by
  have h1 := ip_dep t
  have h2 := lv2 t
  have h3 := ip_lv t
  have h4 := pf_dep (ip t)
  show 2 * (pf (ip t)).dep + 4 ≤ _
  omega
end K74
set_option linter.all false
set_option maxRecDepth 100000
set_option maxHeartbeats 4000000
/-! k74: plain of a tree, run. -/
namespace K74
open PySem PySem.Spec PyProof.Rows L2 PD
def nd : Ex → Nat
  | .num _ => 1
  | .nam _ => 1
  | .ad a b => max (nd a) (nd b) + 1
  | .sb a b => max (nd a) (nd b) + 1
  | .tim _ a => nd a + 1
  | .dv a _ => max (nd a) ((ip a).dep + 1) + 2
  | .md a _ => max (nd a) ((ip a).dep + 1) + 2
def Okr : Ex → Prop
  | .num _ => True
  | .nam _ => True
  | .ad a b => Okr a ∧ Okr b
  | .sb a b => Okr a ∧ Okr b
  | .tim _ a => Okr a
  | .dv a k => Okr a ∧ (1 ≤ k ∧ k ≤ 100) ∧ Fit (ip a)
  | .md a k => Okr a ∧ (1 ≤ k ∧ k ≤ 100) ∧ Fit (ip a)
theorem divOk_of {k : Int} (h : 1 ≤ k) (h2 : k ≤ 100) : divOk k = true := by
  unfold divOk
  have := Nat.log2_le_self k.natAbs
  rw [decide_eq_true (show 0 < k by omega), decide_eq_true (show k.natAbs.log2 < 9000 by omega)]
  rfl
theorem r9 : ∀ (t : Ex) (n : Nat), Okr t → nd t ≤ n → Gv n 9 t.d (ip t).d
  | .num i, n, _, h => by
    obtain ⟨n, rfl⟩ : ∃ j, n = j + 1 := ⟨n - 1, by have : 1 ≤ n := h; omega⟩
    exact r9_num n i
  | .nam i, n, _, h => by
    obtain ⟨n, rfl⟩ : ∃ j, n = j + 1 := ⟨n - 1, by have : 1 ≤ n := h; omega⟩
    exact r9_nam n i
  | .ad a b, n, o, h => by
    have h : max (nd a) (nd b) + 1 ≤ n := h
    obtain ⟨n, rfl⟩ : ∃ j, n = j + 1 := ⟨n - 1, by omega⟩
    exact r9_add n _ _ _ _ (r9 a n o.1 (by omega)) (r9 b n o.2 (by omega))
  | .sb a b, n, o, h => by
    have h : max (nd a) (nd b) + 1 ≤ n := h
    obtain ⟨n, rfl⟩ : ∃ j, n = j + 1 := ⟨n - 1, by omega⟩
    exact r9_sub n _ _ _ _ (r9 a n o.1 (by omega)) (r9 b n o.2 (by omega))
  | .tim k a, n, o, h => by
    have h : nd a + 1 ≤ n := h
    obtain ⟨n, rfl⟩ : ∃ j, n = j + 1 := ⟨n - 1, by omega⟩
    exact r9_tim n k _ _ (r9 a n o (by omega))
  | .dv a k, n, o, h => by
    have h : max (nd a) ((ip a).dep + 1) + 2 ≤ n := h
    obtain ⟨n, rfl⟩ : ∃ j, n = j + 2 := ⟨n - 2, by omega⟩
    exact r9_dv (n + 1) a.d (pf (ip a)) k (divOk_of o.2.1.1 o.2.1.2) (r10 n a.d (ip a) o.2.2 (by omega) (r9 a n o.1 (by omega)))
  | .md a k, n, o, h => by
    have h : max (nd a) ((ip a).dep + 1) + 2 ≤ n := h
    obtain ⟨n, rfl⟩ : ∃ j, n = j + 2 := ⟨n - 2, by omega⟩
    exact r9_md (n + 1) a.d (pf (ip a)) k (by have := o.2.1.1; omega) (r10 n a.d (ip a) o.2.2 (by omega) (r9 a n o.1 (by omega)))
/-- what is drawn -/
structure Inp (t : Ex) : Prop where
  nk : t.nk
  kb : t.kb
  dep : t.dep ≤ 5
  mag : t.mag < 2 ^ 64
theorem p32 {d : Nat} (h : d ≤ 5) : 2 ^ d ≤ 32 := Nat.pow_le_pow_right (n := 2) (by omega) h
theorem Inp.fit {t : Ex} (h : Inp t) : Fit (ip t) := by
  have h1 := ip_dep t
  have h2 := p32 h.dep
  have h3 := h.dep
  have h4 := ip_lv t
  have h5 := lv2 t
  exact ⟨ip_nk t h.nk, by omega, Nat.lt_of_le_of_lt (ip_m t h.kb) h.mag, by omega⟩
theorem Inp.a1 {a b : Ex} (h : Inp (.ad a b)) : Inp a ∧ Inp b := by
  have h1 : max a.dep b.dep + 1 ≤ 5 := h.dep
  have h2 : a.mag + b.mag < 2 ^ 64 := h.mag
  exact ⟨⟨h.nk.1, h.kb.1, by omega, by omega⟩, ⟨h.nk.2, h.kb.2, by omega, by omega⟩⟩
theorem Inp.s1 {a b : Ex} (h : Inp (.sb a b)) : Inp a ∧ Inp b := by
  have h1 : max a.dep b.dep + 1 ≤ 5 := h.dep
  have h2 : a.mag + b.mag < 2 ^ 64 := h.mag
  exact ⟨⟨h.nk.1, h.kb.1, by omega, by omega⟩, ⟨h.nk.2, h.kb.2, by omega, by omega⟩⟩
theorem Inp.t1 {k : Int} {a : Ex} (h : Inp (.tim k a)) : Inp a := by
  have h1 : a.dep + 1 ≤ 5 := h.dep
  have h2 : max 1 k.natAbs * a.mag < 2 ^ 64 := h.mag
  exact ⟨h.nk, h.kb, by omega, Nat.lt_of_le_of_lt (Nat.le_mul_of_pos_left _ (by omega)) h2⟩
theorem Inp.d1 {k : Int} {a : Ex} (h : Inp (.dv a k)) : Inp a ∧ a.dep ≤ 4 := by
  have h1 : a.dep + 1 ≤ 5 := h.dep
  exact ⟨⟨h.nk, h.kb.1, by omega, h.mag⟩, by omega⟩
theorem Inp.m1 {k : Int} {a : Ex} (h : Inp (.md a k)) : Inp a ∧ a.dep ≤ 4 := by
  have h1 : a.dep + 1 ≤ 5 := h.dep
  have h2 : max a.mag k.natAbs < 2 ^ 64 := h.mag
  exact ⟨⟨h.nk, h.kb.1, by omega, by omega⟩, by omega⟩
theorem Inp.okr : ∀ {t : Ex}, Inp t → Okr t
  | .num _, _ => trivial
  | .nam _, _ => trivial
  | .ad _ _, h => ⟨h.a1.1.okr, h.a1.2.okr⟩
  | .sb _ _, h => ⟨h.s1.1.okr, h.s1.2.okr⟩
  | .tim _ _, h => h.t1.okr
  | .dv _ _, h => ⟨h.d1.1.okr, h.kb.2, h.d1.1.fit⟩
  | .md _ _, h => ⟨h.m1.1.okr, h.kb.2, h.m1.1.fit⟩
theorem nd_le : ∀ t : Ex, nd t ≤ 3 * t.dep + 2 ^ t.dep
  | .num _ => by show 1 ≤ 3 * 1 + 2 ^ 1; omega
  | .nam _ => by show 1 ≤ 3 * 1 + 2 ^ 1; omega
  | .ad a b => by
    have h1 := nd_le a
    have h2 := nd_le b
    have h3 := pw a.dep b.dep
    show max (nd a) (nd b) + 1 ≤ 3 * (max a.dep b.dep + 1) + 2 ^ (max a.dep b.dep + 1)
    rw [Nat.pow_succ]; omega
  | .sb a b => by
    have h1 := nd_le a
    have h2 := nd_le b
    have h3 := pw a.dep b.dep
    show max (nd a) (nd b) + 1 ≤ 3 * (max a.dep b.dep + 1) + 2 ^ (max a.dep b.dep + 1)
    rw [Nat.pow_succ]; omega
  | .tim _ a => by
    have h1 := nd_le a
    show nd a + 1 ≤ 3 * (a.dep + 1) + 2 ^ (a.dep + 1)
    rw [Nat.pow_succ]; omega
  | .dv a _ => by
    have h1 := nd_le a
    have h2 := ip_dep a
    show max (nd a) ((ip a).dep + 1) + 2 ≤ 3 * (a.dep + 1) + 2 ^ (a.dep + 1)
    rw [Nat.pow_succ]; omega
  | .md a _ => by
    have h1 := nd_le a
    have h2 := ip_dep a
    show max (nd a) ((ip a).dep + 1) + 2 ≤ 3 * (a.dep + 1) + 2 ^ (a.dep + 1)
    rw [Nat.pow_succ]; omega
theorem fix_pf {a : Ex} (hk : a.nk) : ip (pf (ip a)) = pf (ip a) := ip_pf (ip a) (ga_fix a hk 1)
theorem pl_fit {a : Ex} (h : Inp a) : Fit (pl a) := by
  have h1 := pl_dep a
  have h2 := p32 h.dep
  have h3 := h.dep
  have h4 := ip_lv a
  have h5 := lv2 a
  have h6 := pf_lv (ip a)
  exact ⟨pl_nk a h.nk, by omega, Nat.lt_of_le_of_lt (Nat.le_trans (pf_m (ip a)) (ip_m a h.kb)) h.mag, by show (pf (ip a)).lv < _; omega⟩
theorem pf_okr {a : Ex} (d : Nat) (h : ∀ q ∈ (ga (ip a) 1).2, Okr q.1 ∧ nd q.1 ≤ q.1.dep + d) : Okr (pf (ip a)) ∧ nd (pf (ip a)) ≤ (pf (ip a)).dep + d :=
  pcs_all (fun x => Okr x ∧ nd x ≤ x.dep + d) (fun a b ha hb => ⟨⟨ha.1, hb.1⟩, by show max (nd a) (nd b) + 1 ≤ max a.dep b.dep + 1 + d; omega⟩) _ _ ⟨trivial, by show 1 ≤ 1 + d; omega⟩
    fun q hq => one_all (fun x => Okr x ∧ nd x ≤ x.dep + d) (fun k a ha => ⟨ha.1, by show nd a + 1 ≤ a.dep + 1 + d; omega⟩) q (by
      obtain ⟨r, hr, e⟩ := fm_key (ip a) hq
      rw [← e]; exact h r hr)
theorem okr_pc : ∀ t : Ex, Inp t → ∀ m, ∀ q ∈ (ga (ip t) m).2, Okr q.1 ∧ nd q.1 ≤ q.1.dep + t.dep := by
  intro t
  induction t with
  | num i => intro _ m q hq; simp [ip, ga] at hq
  | nam x => intro _ m q hq; simp [ip, ga] at hq; subst hq; exact ⟨trivial, by show 1 ≤ 1 + 1; omega⟩
  | ad a b ha hb =>
    intro h m q hq
    show _ ∧ nd q.1 ≤ q.1.dep + (max a.dep b.dep + 1)
    rcases List.mem_append.mp hq with z | z
    · have := ha h.a1.1 m q z; exact ⟨this.1, by omega⟩
    · have := hb h.a1.2 m q z; exact ⟨this.1, by omega⟩
  | sb a b ha hb =>
    intro h m q hq
    show _ ∧ nd q.1 ≤ q.1.dep + (max a.dep b.dep + 1)
    rcases List.mem_append.mp hq with z | z
    · have := ha h.s1.1 m q z; exact ⟨this.1, by omega⟩
    · have := hb h.s1.2 (-m) q z; exact ⟨this.1, by omega⟩
  | tim k a ha =>
    intro h m q hq
    have := ha h.t1 (m * k) q hq
    exact ⟨this.1, by show _ ≤ _ + (a.dep + 1); omega⟩
  | dv a k ha =>
    intro h m q hq
    rw [ip_dv] at hq
    cases hn : isN (pf (ip a)) with
    | true =>
      obtain ⟨i, e⟩ := isN_yes hn
      rw [e] at hq
      simp [dvE, ga] at hq
    | false =>
      rw [dvE_no hn] at hq
      simp [ga] at hq
      subst hq
      obtain ⟨o1, o2⟩ := pf_okr a.dep (ha h.d1.1 1)
      have hf := fix_pf h.d1.1.nk
      refine ⟨⟨o1, h.kb.2, by rw [hf]; exact pl_fit h.d1.1⟩, ?_⟩
      show max (nd (pf (ip a))) ((ip (pf (ip a))).dep + 1) + 2 ≤ (pf (ip a)).dep + 1 + (a.dep + 1)
      rw [hf]
      have := two_le a
      omega
  | md a k ha =>
    intro h m q hq
    rw [ip_md] at hq
    cases hn : isN (pf (ip a)) with
    | true =>
      obtain ⟨i, e⟩ := isN_yes hn
      rw [e] at hq
      simp [mdE, ga] at hq
    | false =>
      rw [mdE_no hn] at hq
      simp [ga] at hq
      subst hq
      obtain ⟨o1, o2⟩ := pf_okr a.dep (ha h.m1.1 1)
      have hf := fix_pf h.m1.1.nk
      refine ⟨⟨o1, h.kb.2, by rw [hf]; exact pl_fit h.m1.1⟩, ?_⟩
      show max (nd (pf (ip a))) ((ip (pf (ip a))).dep + 1) + 2 ≤ (pf (ip a)).dep + 1 + (a.dep + 1)
      rw [hf]
      have := two_le a
      omega
structure Ok1 (t : Ex) : Prop where
  nk : t.nk
  kb : t.kb
  okr : Okr t
  fit : Fit (ip t)
  nd : nd t ≤ 50
  dep : t.dep ≤ 46
theorem Inp.ok {t : Ex} (h : Inp t) : Ok1 t := by
  have h1 := nd_le t
  have h2 := p32 h.dep
  have h3 := h.dep
  exact ⟨h.nk, h.kb, h.okr, h.fit, by omega, by omega⟩
theorem Inp.okp {t : Ex} (h : Inp t) : Ok1 (pl t) := by
  obtain ⟨o1, o2⟩ := pf_okr t.dep (okr_pc t h 1)
  have h1 := pl_dep t
  have h2 := p32 h.dep
  have h3 := h.dep
  refine ⟨pl_nk t h.nk, pl_kb t h.kb, o1, by rw [ip_pl t h.nk]; exact pl_fit h, ?_, by omega⟩
  have o2 : nd (pl t) ≤ (pl t).dep + t.dep := o2
  omega
/-- plain_of -/
theorem p10 {t : Ex} (h : Ok1 t) (n : Nat) (hn : 52 ≤ n) : Gv n 10 t.d (pl t).d := by
  obtain ⟨n, rfl⟩ : ∃ j, n = j + 1 := ⟨n - 1, by omega⟩
  have h1 := h.nd
  have h2 := h.fit.dep
  exact r10 n t.d (ip t) h.fit (by omega) (r9 t n h.okr (by omega))
/-- plain -/
@[simp] theorem n11 : f11.N.length = 1 := rfl
theorem p11 {t : Ex} (h : Ok1 t) (n k : Nat) (d : D) (g : G) (hz : Lz g k d t.d) (hk : k ≤ 46) (hn : 53 ≤ n) : (runF P.T n 11 [d] g).w fun y g' => y = (pl t).d ∧ Gr g g' := by
  obtain ⟨n, rfl⟩ : ∃ j, n = j + 1 := ⟨n - 1, by omega⟩
  rw [run_er (F := f11) rfl e11 rfl]
  simp -implicitDefEqProofs [R.w, fin_w, b11, startD]
  have := h.dep
  refine w_mono (r6 t k d g n (kb_dvs t h.kb) hz (by omega) (by omega)) fun y g1 ⟨e1, gr1⟩ => ?_
  subst e1
  refine w_mono (p10 h n (by omega) g1) fun y g2 ⟨e2, gr2⟩ => ?_
  exact ⟨e2, gr1.trans gr2⟩
end K74
set_option linter.all false
set_option maxRecDepth 100000
set_option maxHeartbeats 4000000
/-! k74: the law's gathering: cells of a piece and its times. -/
namespace K74
open PySem PySem.Spec PyProof.Rows L2 PD
structure Bel (k : Nat) (g g' : G) : Prop where
  len : g.length ≤ g'.length
  at_ : ∀ i, i < k → g'[i]? = g[i]?
theorem Bel.refl (k : Nat) (g : G) : Bel k g g := ⟨Nat.le_refl _, fun _ _ => rfl⟩
theorem Bel.trans {k : Nat} {a b c : G} (h : Bel k a b) (h2 : Bel k b c) : Bel k a c := ⟨Nat.le_trans h.len h2.len, fun i hi => (h2.at_ i hi).trans (h.at_ i hi)⟩
theorem Bel.of_gr {k : Nat} {g g' : G} (h : Gr g g') (hk : k ≤ g.length) : Bel k g g' := by
  obtain ⟨t, rfl⟩ := h
  exact ⟨by simp, fun i hi => List.getElem?_append_left (by omega)⟩
theorem Bel.set {k : Nat} {g g' : G} (h : Bel k g g') {i : Nat} (o : DO) (hi : k ≤ i) : Bel k g (g'.set i o) := ⟨by rw [List.length_set]; exact h.len, fun j hj => by rw [List.getElem?_set_ne (by omega)]; exact h.at_ j hj⟩
theorem Bel.gr {g g' : G} (h : Bel g.length g g') : Gr g g' := by
  refine ⟨g'.drop g.length, ?_⟩
  apply List.ext_getElem?
  intro i
  by_cases hi : i < g.length
  · rw [List.getElem?_append_left hi]; exact h.at_ i hi
  · rw [List.getElem?_append_right (by omega), List.getElem?_drop]
    congr 1; omega
abbrev Ce := (Ex × Int) × Nat
structure Cel (g : G) (k : Nat) (L : List Ce) : Prop where
  row : g[k]? = some (.lst (L.map fun q => D.ref q.2))
  cell : ∀ q ∈ L, g[q.2]? = some (.lst [q.1.1.d, .int q.1.2])
  nd : (L.map (·.2)).Nodup
  above : ∀ q ∈ L, k < q.2
theorem Cel.gr {g g' : G} {k : Nat} {L : List Ce} (h : Cel g k L) (r : Gr g g') : Cel g' k L := ⟨r.at h.row, fun q hq => r.at (h.cell q hq), h.nd, h.above⟩
theorem Cel.kl {g : G} {k : Nat} {L : List Ce} (h : Cel g k L) : k < g.length := (List.getElem?_eq_some_iff.mp h.row).1
theorem add_at {p : Ex} {t : Int} : ∀ (M : List (Ex × Int)) (i : Nat) (hi : i < M.length), (∀ j (hj : j < i), (M[j]'(by omega)).1 ≠ p) → M[i].1 = p → addA M p t = M.set i (p, M[i].2 + t)
  | [], i, hi, _, _ => absurd hi (by simp)
  | q :: M, 0, hi, _, e => by
    have e : q.1 = p := e
    show (if q.1 = p then (q.1, q.2 + t) :: M else _) = _
    rw [if_pos e, e]; rfl
  | q :: M, i + 1, hi, h, e => by
    have h0 : q.1 ≠ p := h 0 (by omega)
    show (if q.1 = p then _ else q :: addA M p t) = _
    rw [if_neg h0, add_at M i (by simpa using hi) (fun j hj => h (j + 1) (by omega)) e]
    rfl
theorem nd_get {L : List Ce} (h : (L.map (·.2)).Nodup) {i j : Nat} (hi : i < L.length) (hj : j < L.length) (e : L[i].2 = L[j].2) : i = j := by
  have := (List.getElem_inj (xs := L.map (·.2)) (i := i) (j := j) (h₀ := by simpa using hi) (h₁ := by simpa using hj) h).mp (by simpa using e)
  exact this
/-- a cell changed -/
theorem Cel.upd {g : G} {k : Nat} {L : List Ce} (h : Cel g k L) {i : Nat} (hi : i < L.length) (p : Ex) (v : Int) : Cel (g.set L[i].2 (.lst [p.d, .int v])) k (L.set i ((p, v), L[i].2)) := by
  have hm := List.getElem_mem hi
  have ha := h.above _ hm
  have hl := (List.getElem?_eq_some_iff.mp (h.cell _ hm)).1
  have e2 : (L.set i ((p, v), L[i].2)).map (·.2) = L.map (·.2) := by
    apply List.ext_getElem?
    intro j
    rw [List.getElem?_map, List.getElem?_map, List.getElem?_set]
    split
    · rename_i e; subst e; rw [List.getElem?_eq_getElem hi]; simp
    · rfl
  refine ⟨?_, fun q hq => ?_, by rw [e2]; exact h.nd, fun q hq => ?_⟩
  · rw [List.getElem?_set_ne (by omega), h.row]
    congr 2
    have := congrArg (List.map D.ref) e2
    rw [List.map_map, List.map_map] at this
    exact this.symm
  · obtain ⟨j, hj, e⟩ := List.mem_iff_getElem.mp hq
    rw [List.length_set] at hj
    rw [List.getElem_set] at e
    split at e
    · subst e
      exact List.getElem?_set_self hl
    · rename_i ne
      subst e
      rw [List.getElem?_set_ne (fun z => ne (nd_get h.nd hi hj z))]
      exact h.cell _ (List.getElem_mem hj)
  · have : q.2 ∈ (L.set i ((p, v), L[i].2)).map (·.2) := List.mem_map.mpr ⟨q, hq, rfl⟩
    rw [e2] at this
    obtain ⟨r, hr, e⟩ := List.mem_map.mp this
    rw [← e]; exact h.above r hr
/-- a new cell -/
theorem Cel.new {g : G} {k : Nat} {L : List Ce} (h : Cel g k L) (p : Ex) (v : Int) : Cel ((g ++ [DO.lst [p.d, .int v]]).set k (.lst (L.map (fun q => D.ref q.2) ++ [.ref g.length]))) k (L ++ [((p, v), g.length)]) := by
  have hk := h.kl
  refine ⟨?_, fun q hq => ?_, ?_, fun q hq => ?_⟩
  · rw [List.getElem?_set_self (by rw [List.length_append]; omega), List.map_append]; rfl
  · rcases List.mem_append.mp hq with z | z
    · have := h.above q z
      rw [List.getElem?_set_ne (by omega)]
      exact at_old (h.cell q z)
    · rw [List.mem_singleton.mp z]
      rw [List.getElem?_set_ne (by show k ≠ g.length; omega)]
      exact at_new
  · rw [List.map_append, List.nodup_append]
    refine ⟨h.nd, by simp, fun a ha b hb z => ?_⟩
    simp at hb
    subst z
    obtain ⟨q, hq, e⟩ := List.mem_map.mp ha
    have := (List.getElem?_eq_some_iff.mp (h.cell q hq)).1
    omega
  · rcases List.mem_append.mp hq with z | z
    · exact h.above q z
    · rw [List.mem_singleton.mp z]; exact hk
theorem i0_ {d u : D} {r : List D} {g : G} (hs : seqD d g = some (u :: r)) {Q : D → G → Prop} {Ex : Str → Fs → G → Prop} : (dIdx d (.int 0) g).sat Q Ex = Q u g := ixs (k := 0) hs rfl rfl
def s27 : Ss := (.cons
  (.forr (.name 7 PD.e0 p0) (.seq (.var 2 PD.e0 p0)) (.cons
    (.ifs (.cmp .Eq (.idx (.var 7 PD.e0 p0) (.num 0 0 p0) p0) (.var 4 PD.e0 p0) p0) (.cons
      (.put (.var 7 PD.e0 p0) (.num 1 0 p0) (.bin .Add (.idx (.var 7 PD.e0 p0) (.num 1 0 p0) p0) (.var 1 PD.e0 p0) p0) p0 p0)
      (.cons
      (.ret (.num 0 0 p0) p0)
      .nil)) .nil p0)
    .nil) p0)
  (.cons
  (.exp (.mth .append (.var 2 PD.e0 p0) p0 (.cons (.lst (.cons (.var 4 PD.e0 p0) (.cons (.var 1 PD.e0 p0) .nil)) p0) .nil) p0) p0)
  (.cons
  (.ret (.num 0 0 p0) p0)
  .nil)))
theorem put1 {g : G} {c : Nat} {u v w : D} (h : g[c]? = some (.lst [u, v])) {Q : Unit → G → Prop} {Ex : Str → Fs → G → Prop} : (putR (.ref c) (.int 1) w g).sat Q Ex = Q () (g.set c (.lst [u, w])) := by
  have : putR (.ref c) (.int 1) w g = .ok () (g.set c (.lst [u, w])) := by
    unfold putR
    simp only [h]
    rfl
  rw [this]; rfl
theorem s27_w {cl : Nat → List D → G → PD.R D} {x0 x3 x5 x6 x7 : Option D} (p : Ex) (t : Int) (k : Nat) (L : List Ce) (g : G) (hc : Cel g k L) (hL : ∀ q ∈ L, q.1.1.nk ∧ q.1.1.dep ≤ 50) (hp : p.nk) (hd : p.dep ≤ 50) (hl : L.length < 1000000) {Qn : Sl → G → Prop} {Qr : D → G → Prop} {Es : Str → Fs → Sl → G → Prop}
    (hq : ∀ g' L', Cel g' k L' → L'.map (·.1) = addA (L.map (·.1)) p t → Bel k g g' → Qr (.int 0) g') :
    (exes cl s27 [x0, some (.int t), some (.ref k), x3, some p.d, x5, x6, x7] g).sat Qn Qr Es := by
  unfold s27
  rw [x_cons, x_forE (x := .ref k) rfl (seq_ref hc.row)]
  refine for_l L (fun q => D.ref q.2) (fun i δ gi => gi = g ∧ (∀ j (hj : j < i) (hl : j < L.length), L[j].1.1 ≠ p) ∧ ∃ y7, δ = [x0, some (.int t), some (.ref k), x3, some p.d, x5, x6, y7]) (by omega) (fun i δ gi ⟨e, _⟩ => e ▸ seq_ref hc.row) (fun i hi δ gi ⟨e, hne, y7, hδ⟩ => ?_) (fun δ gi ⟨e, hne, y7, hδ⟩ => ?_) _ g ⟨rfl, fun j hj => absurd hj (by omega), x7, rfl⟩
  · subst e
    subst hδ
    refine ⟨[x0, some (.int t), some (.ref k), x3, some p.d, x5, x6, some (.ref L[i].2)], rfl, ?_⟩
    have hm := List.getElem_mem hi
    have hcell := hc.cell _ hm
    have hs := seq_ref hcell
    have hq1 := hL _ hm
    by_cases e : L[i].1.1 = p
    · have r1 : Qr (.int 0) (gi.set L[i].2 (.lst [L[i].1.1.d, .int (L[i].1.2 + t)])) := by
        rw [e]
        refine hq _ _ (hc.upd hi p (L[i].1.2 + t)) ?_ ((Bel.refl k gi).set _ (by have := hc.above _ hm; omega))
        rw [add_at (L.map (·.1)) i (by simpa using hi) (fun j hj => by simpa using hne j hj (by omega)) (by simpa using e)]
        rw [List.map_set]
        simp
      rw [e] at hs hcell
      simp -implicitDefEqProofs [i0_ hs, eqEx p p _ hp hp hd hd, x_put, i1_ hs, put1 hcell]
      simpa -implicitDefEqProofs [e] using r1
    · simp -implicitDefEqProofs [i0_ hs, eqEx L[i].1.1 p _ hq1.1 hp hq1.2 hd, e]
      intro j hj hjl
      by_cases z : j = i
      · subst z; exact e
      · exact hne j (by omega) hjl
  · subst e
    subst hδ
    have hk := hc.kl
    have hr : (gi ++ [DO.lst [p.d, .int t]])[k]? = some (.lst (L.map fun q => D.ref q.2)) := at_old hc.row
    have r1 : Qr (.int 0) ((gi ++ [DO.lst [p.d, .int t]]).set k (.lst (L.map (fun q => D.ref q.2) ++ [.ref gi.length]))) := by
      refine hq _ _ (hc.new p t) ?_ ((Bel.of_gr (Gr.add _ _) (by omega)).set _ (Nat.le_refl k))
      rw [List.map_append, add_no]
      · rfl
      · intro z
        obtain ⟨q, hq, e⟩ := List.mem_map.mp z
        obtain ⟨r, hr, e2⟩ := List.mem_map.mp hq
        obtain ⟨j, hj, e3⟩ := List.mem_iff_getElem.mp hr
        exact hne j hj hj (by rw [e3, e2, e])
    simp -implicitDefEqProofs [isl_ref hc.row, sizeLine_eq, app_w hr (show (L.map fun q => D.ref q.2).length < 1000000 by simpa using hl)]
    exact r1
end K74
set_option linter.all false
set_option maxRecDepth 100000
set_option maxHeartbeats 4000000
/-! k74: the law's gathering and plain form. -/
namespace K74
open PySem PySem.Spec PyProof.Rows L2 PD
@[simp] theorem n27 : f27.N.length = 8 := rfl
@[simp] theorem n28 : f28.N.length = 8 := rfl
def okL (L : List Ce) : Prop := ∀ q ∈ L, q.1.1.nk ∧ q.1.1.dep ≤ 50
def G27 (n : Nat) (a : D) (t : Ex) (m : Int) : Prop := ∀ k L g, Cel g k L → okL L → L.length + t.lv < 1000000 →
  (runF P.T n 27 [a, .int m, .ref k] g).w fun y g' => y = .int (ga (ip t) m).1 ∧ ∃ L', Cel g' k L' ∧ L'.map (·.1) = asc (ga (ip t) m).2 (L.map (·.1)) ∧ Bel k g g'
theorem b27_eq : b27 = (.cons
  (.asg 3 PD.e0 p0 (.idx (.var 0 PD.e0 p0) (.num 0 0 p0) p0) p0)
  (.cons
  (.ifs (.cmp .Eq (.var 3 PD.e0 p0) (.txt "number" 0 p0) p0) (.cons
    (.ret (.bin .Mult (.var 1 PD.e0 p0) (.idx (.var 0 PD.e0 p0) (.num 1 0 p0) p0) p0) p0)
    .nil) .nil p0)
  (.cons
  (.ifs (.cmp .Eq (.var 3 PD.e0 p0) (.txt "times" 0 p0) p0) (.cons
    (.ret (.call 27 PD.e0 p0 (.cons (.idx (.var 0 PD.e0 p0) (.num 2 0 p0) p0) (.cons (.bin .Mult (.var 1 PD.e0 p0) (.idx (.var 0 PD.e0 p0) (.num 1 0 p0) p0) p0) (.cons (.var 2 PD.e0 p0) .nil))) p0) p0)
    .nil) .nil p0)
  (.cons
  (.ifs (.cmp .In (.var 3 PD.e0 p0) (.tup (.cons (.txt "add" 0 p0) (.cons (.txt "sub" 0 p0) .nil)) 0 p0) p0) (.cons
    (.ret (.bin .Add (.call 27 PD.e0 p0 (.cons (.idx (.var 0 PD.e0 p0) (.num 1 0 p0) p0) (.cons (.var 1 PD.e0 p0) (.cons (.var 2 PD.e0 p0) .nil))) p0) (.call 27 PD.e0 p0 (.cons (.idx (.var 0 PD.e0 p0) (.num 2 0 p0) p0) (.cons (.ife (.cmp .Eq (.var 3 PD.e0 p0) (.txt "add" 0 p0) p0) (.var 1 PD.e0 p0) (.bin .Sub (.num 0 0 p0) (.var 1 PD.e0 p0) p0) p0) (.cons (.var 2 PD.e0 p0) .nil))) p0) p0) p0)
    .nil) .nil p0)
  (.cons
  (.asg 4 PD.e0 p0 (.var 0 PD.e0 p0) p0)
  (.cons
  (.ifs (.cmp .In (.var 3 PD.e0 p0) (.tup (.cons (.txt "div" 0 p0) (.cons (.txt "mod" 0 p0) .nil)) 0 p0) p0) (.cons
    (.asg 5 PD.e0 p0 (.call 28 PD.e0 p0 (.cons (.idx (.var 0 PD.e0 p0) (.num 1 0 p0) p0) .nil) p0) p0)
    (.cons
    (.ifs (.cmp .Eq (.idx (.var 5 PD.e0 p0) (.num 0 0 p0) p0) (.txt "number" 0 p0) p0) (.cons
      (.asg 6 PD.e0 p0 (.bin .FloorDiv (.idx (.var 5 PD.e0 p0) (.num 1 0 p0) p0) (.idx (.var 0 PD.e0 p0) (.num 2 0 p0) p0) p0) p0)
      (.cons
      (.ret (.bin .Mult (.var 1 PD.e0 p0) (.ife (.cmp .Eq (.var 3 PD.e0 p0) (.txt "div" 0 p0) p0) (.var 6 PD.e0 p0) (.bin .Sub (.idx (.var 5 PD.e0 p0) (.num 1 0 p0) p0) (.bin .Mult (.idx (.var 0 PD.e0 p0) (.num 2 0 p0) p0) (.var 6 PD.e0 p0) p0) p0) p0) p0) p0)
      .nil)) .nil p0)
    (.cons
    (.asg 4 PD.e0 p0 (.tup (.cons (.var 3 PD.e0 p0) (.cons (.var 5 PD.e0 p0) (.cons (.idx (.var 0 PD.e0 p0) (.num 2 0 p0) p0) .nil))) 0 p0) p0)
    .nil))) .nil p0)
  s27)))))) := rfl
theorem asc_V (V : Ex → Prop) (L M : List (Ex × Int)) (hL : ∀ q ∈ L, V q.1) (hM : ∀ q ∈ M, V q.1) : ∀ q ∈ asc L M, V q.1 := fun q hq => by
  rcases (key_asc q.1 L M).mp (List.mem_map.mpr ⟨q, hq, rfl⟩) with z | z
  · obtain ⟨r, hr, e⟩ := List.mem_map.mp z
    rw [← e]; exact hL r hr
  · obtain ⟨r, hr, e⟩ := List.mem_map.mp z
    rw [← e]; exact hM r hr
theorem r27_num (n : Nat) (i m : Int) (hm : m.natAbs < 2 ^ 64) : G27 (n + 1) (Ex.num i).d (.num i) m := by
  intro k L g hc hL hl
  rw [run_er (F := f27) rfl e27 rfl, b27_eq]
  simp -implicitDefEqProofs [R.w, fin_w, startD, Ex.d, sizeLine_eq, eqS ok_number ok_number, mulOk_of hm]
  exact ⟨rfl, L, hc, rfl, Bel.refl _ _⟩
theorem r27_tim (n : Nat) (i m : Int) (a : D) (t : Ex) (hm : m.natAbs < 2 ^ 64) (h : G27 n a t (m * i)) : G27 (n + 1) (.tup [.str "times", .int i, a]) (.tim i t) m := by
  intro k L g hc hL hl
  rw [run_er (F := f27) rfl e27 rfl, b27_eq]
  simp -implicitDefEqProofs [R.w, fin_w, startD, sizeLine_eq, eqS ok_times ok_number, eqS ok_times ok_times, mulOk_of hm]
  exact h k L g hc hL hl
theorem r27_two (n : Nat) (m m2 : Int) (a b : D) (s t : Ex) (h1 : G27 n a s m) (h2 : G27 n b t m2) (ok : ∀ q ∈ (ga (ip s) m).2, q.1.nk ∧ q.1.dep ≤ 50) {k : Nat} {L : List Ce} {g : G} (hc : Cel g k L) (hL : okL L) (hl : L.length + (s.lv + t.lv) < 1000000) (Q : D → G → Prop)
    (hq : ∀ g', ∀ L', Cel g' k L' → L'.map (·.1) = asc ((ga (ip s) m).2 ++ (ga (ip t) m2).2) (L.map (·.1)) → Bel k g g' → Q (.int ((ga (ip s) m).1 + (ga (ip t) m2).1)) g') :
    (runF P.T n 27 [a, .int m, .ref k] g).w fun x g1 => (runF P.T n 27 [b, .int m2, .ref k] g1).w fun y g2 => (binD .Add x y g2).w Q := by
  refine w_mono (h1 k L g hc hL (by omega)) fun x g1 ⟨e1, L1, hc1, hm1, bl1⟩ => ?_
  subst e1
  have hlen := congrArg List.length hm1
  have al := asc_len (ga (ip s) m).2 (L.map (·.1))
  have gl := Nat.le_trans (ga_len (ip s) m) (ip_lv s)
  simp only [List.length_map] at hlen al
  refine w_mono (h2 k L1 g1 hc1 (fun q hq => ?_) (by omega)) fun y g2 ⟨e2, L2, hc2, hm2, bl2⟩ => ?_
  · have : q.1 ∈ asc (ga (ip s) m).2 (L.map (·.1)) := hm1 ▸ List.mem_map.mpr ⟨q, hq, rfl⟩
    exact asc_V (fun e => e.nk ∧ e.dep ≤ 50) _ _ ok (fun r hr => by
      obtain ⟨z, hz, e⟩ := List.mem_map.mp hr
      rw [← e]; exact hL z hz) _ this
  · subst e2
    refine hq g2 L2 hc2 ?_ (bl1.trans bl2)
    rw [hm2, hm1]
    unfold asc
    rw [List.foldl_append]
theorem r27_add (n : Nat) (m : Int) (a b : D) (s t : Ex) (h1 : G27 n a s m) (h2 : G27 n b t m) (ok : ∀ q ∈ (ga (ip s) m).2, q.1.nk ∧ q.1.dep ≤ 50) : G27 (n + 1) (.tup [.str "add", a, b]) (.ad s t) m := by
  intro k L g hc hL hl
  rw [run_er (F := f27) rfl e27 rfl, b27_eq]
  simp -implicitDefEqProofs [R.w, fin_w, startD, sizeLine_eq, eqS ok_add ok_number, eqS ok_add ok_times, eqS ok_add ok_add, in2]
  exact r27_two n m m a b s t h1 h2 ok hc hL hl _ fun g' L' a1 a2 a3 => ⟨rfl, L', a1, a2, a3⟩
theorem r27_sub (n : Nat) (m : Int) (a b : D) (s t : Ex) (h1 : G27 n a s m) (h2 : G27 n b t (-m)) (ok : ∀ q ∈ (ga (ip s) m).2, q.1.nk ∧ q.1.dep ≤ 50) : G27 (n + 1) (.tup [.str "sub", a, b]) (.sb s t) m := by
  intro k L g hc hL hl
  rw [run_er (F := f27) rfl e27 rfl, b27_eq]
  simp -implicitDefEqProofs [R.w, fin_w, startD, sizeLine_eq, eqS ok_sub ok_number, eqS ok_sub ok_times, eqS ok_sub ok_add, in2]
  exact r27_two n m (-m) a b s t h1 h2 ok hc hL hl _ fun g' L' a1 a2 a3 => ⟨rfl, L', a1, a2, a3⟩
theorem r27_nam (n : Nat) (x : Str) (m : Int) (hx : PyData.strOk x = true) : G27 (n + 1) (Ex.nam x).d (.nam x) m := by
  intro k L g hc hL hl
  rw [run_er (F := f27) rfl e27 rfl, b27_eq]
  have hl : L.length + 1 < 1000000 := hl
  have key := fun {x0 x3 x5 x6 x7 : Option D} {Qn : Sl → G → Prop} {Qr : D → G → Prop} {Es : Str → Fs → Sl → G → Prop} hq => s27_w (cl := runF P.T n) (x0 := x0) (x3 := x3) (x5 := x5) (x6 := x6) (x7 := x7) (Qn := Qn) (Qr := Qr) (Es := Es) (.nam x) m k L g hc hL hx (by show 1 ≤ 50; omega) (by omega) hq
  simp -implicitDefEqProofs [R.w, fin_w, startD, Ex.d, sizeLine_eq, eqS ok_name ok_number, eqS ok_name ok_times, in2]
  exact key fun g' L' a1 a2 a3 => ⟨rfl, L', a1, a2, a3⟩
theorem r27_dv (n : Nat) (a : D) (t : Ex) (i m : Int) (hm : m.natAbs < 2 ^ 64) (hi : 1 ≤ i) (hi2 : i ≤ 100) (h : Gv n 28 a (pl t).d) (hk : (pl t).nk) (hd : (pl t).dep ≤ 49) : G27 (n + 1) (.tup [.str "div", a, .int i]) (.dv t i) m := by
  intro k L g hc hL hl
  rw [run_er (F := f27) rfl e27 rfl, b27_eq]
  have hl : L.length + 1 < 1000000 := hl
  simp -implicitDefEqProofs [R.w, fin_w, startD, sizeLine_eq, eqS ok_div ok_number, eqS ok_div ok_times, in2]
  refine w_mono (h g) fun y g1 ⟨e1, gr1⟩ => ?_
  subst e1
  have hc1 := hc.gr gr1
  have b1 := Bel.of_gr (k := k) gr1 (Nat.le_of_lt hc.kl)
  have hdi := divOk_of hi hi2
  cases hn : isN (pl t) with
  | true =>
    obtain ⟨j, e⟩ := isN_yes hn
    have hip : ip (.dv t i) = .num (j / i) := by rw [ip_dv, show pf (ip t) = .num j from e]; rfl
    rw [e, hip]
    simp -implicitDefEqProofs [Ex.d, sizeLine_eq, eqS ok_number ok_number, eqS ok_div ok_div, mulOk_of hm, hdi]
    exact ⟨rfl, L, hc1, rfl, b1⟩
  | false =>
    have hip : ip (.dv t i) = .dv (pl t) i := by rw [ip_dv]; exact dvE_no hn i
    have key := fun {x0 x3 x5 x6 x7 : Option D} {Qn : Sl → G → Prop} {Qr : D → G → Prop} {Es : Str → Fs → Sl → G → Prop} hq => s27_w (cl := runF P.T n) (x0 := x0) (x3 := x3) (x5 := x5) (x6 := x6) (x7 := x7) (Qn := Qn) (Qr := Qr) (Es := Es) (.dv (pl t) i) m k L g1 hc1 hL hk (by show (pl t).dep + 1 ≤ 50; omega) (by omega) hq
    rw [hip]
    simp -implicitDefEqProofs [w0, w_isN, hn, sizeLine_eq]
    exact key fun g' L' a1 a2 a3 => ⟨rfl, L', a1, a2, b1.trans a3⟩
theorem r27_md (n : Nat) (a : D) (t : Ex) (i m : Int) (hm : m.natAbs < 2 ^ 64) (hi : 1 ≤ i) (hi2 : i ≤ 100) (h : Gv n 28 a (pl t).d) (hk : (pl t).nk) (hd : (pl t).dep ≤ 49) : G27 (n + 1) (.tup [.str "mod", a, .int i]) (.md t i) m := by
  intro k L g hc hL hl
  rw [run_er (F := f27) rfl e27 rfl, b27_eq]
  have hl : L.length + 1 < 1000000 := hl
  simp -implicitDefEqProofs [R.w, fin_w, startD, sizeLine_eq, eqS ok_mod ok_number, eqS ok_mod ok_times, in2]
  refine w_mono (h g) fun y g1 ⟨e1, gr1⟩ => ?_
  subst e1
  have hc1 := hc.gr gr1
  have b1 := Bel.of_gr (k := k) gr1 (Nat.le_of_lt hc.kl)
  have hdi := divOk_of hi hi2
  have hmi : mulOk i = fun j => mulOk i j := rfl
  cases hn : isN (pl t) with
  | true =>
    obtain ⟨j, e⟩ := isN_yes hn
    have hip : ip (.md t i) = .num (j % i) := by rw [ip_md, show pf (ip t) = .num j from e]; rfl
    have hmu : mulOk i (j / i) = true := mulOk_of (by omega)
    have hem : j - i * (j / i) = j % i := by rw [Int.emod_def]
    rw [e, hip]
    simp -implicitDefEqProofs [Ex.d, sizeLine_eq, eqS ok_number ok_number, eqS ok_mod ok_div, mulOk_of hm, hdi, hmu, hem]
    exact ⟨rfl, L, hc1, rfl, b1⟩
  | false =>
    have hip : ip (.md t i) = .md (pl t) i := by rw [ip_md]; exact mdE_no hn i
    have key := fun {x0 x3 x5 x6 x7 : Option D} {Qn : Sl → G → Prop} {Qr : D → G → Prop} {Es : Str → Fs → Sl → G → Prop} hq => s27_w (cl := runF P.T n) (x0 := x0) (x3 := x3) (x5 := x5) (x6 := x6) (x7 := x7) (Qn := Qn) (Qr := Qr) (Es := Es) (.md (pl t) i) m k L g1 hc1 hL hk (by show (pl t).dep + 1 ≤ 50; omega) (by omega) hq
    rw [hip]
    simp -implicitDefEqProofs [w0, w_isN, hn, sizeLine_eq]
    exact key fun g' L' a1 a2 a3 => ⟨rfl, L', a1, a2, b1.trans a3⟩
end K74
set_option linter.all false
set_option maxRecDepth 100000
set_option maxHeartbeats 4000000
/-! k74: the law's plain form. -/
namespace K74
open PySem PySem.Spec PyProof.Rows L2 PD
/-- the parts -/
def ps0 (c : Int) : List Ex := if c ≠ 0 then [.num c] else []
def told : List Ex → Ex
  | [] => .num 0
  | h :: T => T.foldl .ad h
theorem fold_one : ∀ (F : List (Ex × Int)) (e : Ex), F.foldl addF (some e) = some ((F.map oneF).foldl .ad e)
  | [], _ => rfl
  | q :: F, e => fold_one F (.ad e (oneF q))
theorem pcs_told (c : Int) (F : List (Ex × Int)) : pcs c F = told (ps0 c ++ F.map oneF) := by
  unfold pcs ps0
  by_cases hc : c = 0
  · subst hc
    cases F with
    | nil => rfl
    | cons q F =>
      rw [if_neg (by simp), if_neg (by simp)]
      show (List.foldl addF (some (oneF q)) F).getD _ = _
      rw [fold_one]; rfl
  · rw [if_pos (.inl hc), if_pos hc, fold_one]; rfl
theorem ex_p (g : G) (L : List Ex) (h : ∀ q ∈ L, q.dep ≤ 55) : allP (toP g 69) (L.map Ex.d) = some (L.map Ex.p) :=
  all_toP Ex.d Ex.p L fun q hq => toP_le g q (by have := h q hq; omega)
theorem ex_s : ∀ (L : List Ex), (∀ q ∈ L, q.nk ∧ q.dep ≤ 55) → PyData.canLayAll0 (L.map Ex.p) = true ∧ PyData.depthAll (L.map Ex.p) ≤ 57
  | [], _ => ⟨rfl, by simp [PyData.depthAll]⟩
  | q :: L, h => by
    have ih := ex_s L fun r hr => h r (List.mem_cons_of_mem _ hr)
    have h1 := h q List.mem_cons_self
    have := dep_p q
    refine ⟨?_, ?_⟩
    · simp [PyData.canLayAll0, can_p q h1.1, ih.1]
    · have h2 := h1.2
      have h3 := ih.2
      simp [PyData.depthAll]
      omega
theorem neNilX {g : G} {a b : Nat} (L : List Ex) (ha : g[a]? = some (.lst (L.map Ex.d))) (hb : g[b]? = some (.lst [])) (h : ∀ q ∈ L, q.nk ∧ q.dep ≤ 55) {Q : D → G → Prop} {Ec : Str → Fs → G → Prop} : (cmpD .NotEq (.ref a) (.ref b) g).sat Q Ec = Q (.bl (!L.isEmpty)) g := by
  have hs : SeqAt.shaped (.list (L.map Ex.p)) = true := by
    obtain ⟨h1, h2⟩ := ex_s L h
    unfold SeqAt.shaped
    rw [Bool.and_eq_true, decide_eq_true_iff]
    exact ⟨h1, by simp [PyData.depth]; omega⟩
  have e := eqNil ha hb (ex_p g L fun q hq => (h q hq).2) hs
  show (ofB ((dEq (.ref a) (.ref b) g).map (!·)) g).sat Q Ec = _
  rw [e]
  show Q (.bl (!(L.map Ex.d).isEmpty)) g = _
  rw [show (L.map Ex.d).isEmpty = L.isEmpty from by cases L <;> rfl]
theorem slc1 {g : G} {k : Nat} {ds : List D} (h : g[k]? = some (.lst ds)) {Q : D → G → Prop} {Ex : Str → Fs → G → Prop} : (dSl (.ref k) (some 1) none g).sat Q Ex = Q (.ref g.length) (g ++ [.lst (ds.drop 1)]) := by
  have : dSl (.ref k) (some 1) none g = .ok (.ref g.length) (g ++ [.lst (ds.drop 1)]) := by
    show (match g[k]? with
      | some (DO.lst ds) => PD.R.ok (D.ref g.length) (g ++ [DO.lst (PD.cutD ds (some 1) none)])
      | _ => PD.R.bad) = _
    rw [h]
    show PD.R.ok (D.ref g.length) (g ++ [DO.lst (PD.cutD ds (some 1) none)]) = _
    have : PD.cutD ds (some 1) none = ds.drop 1 := by
      unfold PD.cutD
      rw [HT.sIx_none, show (some (1 : Int)) = some ((1 : Nat) : Int) from rfl, HT.sIx_nat]
      cases ds with
      | nil => rfl
      | cons a r =>
        have : min 1 (a :: r).length = 1 := by simp
        rw [this, List.take_of_length_le (by simp)]
    rw [this]
  rw [this]; rfl
def s28a : Ss := (.cons
    (.ifs (.cmp .NotEq (.var 5 PD.e0 p0) (.num 0 0 p0) p0) (.cons
      (.exp (.mth .append (.var 3 PD.e0 p0) p0 (.cons (.ife (.cmp .Eq (.var 5 PD.e0 p0) (.num 1 0 p0) p0) (.var 4 PD.e0 p0) (.tup (.cons (.txt "times" 0 p0) (.cons (.var 5 PD.e0 p0) (.cons (.var 4 PD.e0 p0) .nil))) 0 p0) p0) .nil) p0) p0)
      .nil) .nil p0)
    .nil)
def s28b : Ss := (.cons
    (.asg 6 PD.e0 p0 (.tup (.cons (.txt "add" 0 p0) (.cons (.var 6 PD.e0 p0) (.cons (.var 7 PD.e0 p0) .nil))) 0 p0) p0)
    .nil)
def s28r : Ss := (.cons
  (.forr (.name 7 PD.e0 p0) (.seq (.slc (.var 3 PD.e0 p0) (.some (.num 1 0 p0)) .none p0 p0)) s28b p0)
  (.cons
  (.ret (.var 6 PD.e0 p0) p0)
  .nil))
def s28m : Ss := (.cons
  (.forr (.tup [(.name 4 PD.e0 p0), (.name 5 PD.e0 p0)] 0 p0) (.seq (.blt .sorted p0 (.cons (.var 1 PD.e0 p0) .nil) p0)) s28a p0)
  (.cons
  (.asg 6 PD.e0 p0 (.ife (.cmp .NotEq (.var 3 PD.e0 p0) (.lst .nil p0) p0) (.idx (.var 3 PD.e0 p0) (.num 0 0 p0) p0) (.tup (.cons (.txt "number" 0 p0) (.cons (.num 0 0 p0) .nil)) 0 p0) p0) p0)
  s28r))
theorem b28_eq : b28 = (.cons
  (.asg 1 PD.e0 p0 (.lst .nil p0) p0)
  (.cons
  (.asg 2 PD.e0 p0 (.call 27 PD.e0 p0 (.cons (.var 0 PD.e0 p0) (.cons (.num 1 0 p0) (.cons (.var 1 PD.e0 p0) .nil))) p0) p0)
  (.cons
  (.asg 3 PD.e0 p0 (.ife (.cmp .NotEq (.var 2 PD.e0 p0) (.num 0 0 p0) p0) (.lst (.cons (.tup (.cons (.txt "number" 0 p0) (.cons (.var 2 PD.e0 p0) .nil)) 0 p0) .nil) p0) (.lst .nil p0) p0) p0)
  s28m))) := rfl
theorem s28r_w {cl : Nat → List D → G → PD.R D} {x0 x1 x2 x4 x5 x7 : Option D} (j : Nat) (h : Ex) (PS : List Ex) (g : G) (hj : g[j]? = some (.lst ((PS).map Ex.d))) (hl : PS.length < 1000000)
    {Qn : Sl → G → Prop} {Qr : D → G → Prop} {Es : Str → Fs → Sl → G → Prop} (hq : ∀ g', Gr g g' → Qr ((PS.drop 1).foldl .ad h).d g') :
    (exes cl s28r [x0, x1, x2, some (.ref j), x4, x5, some h.d, x7] g).sat Qn Qr Es := by
  unfold s28r
  rw [x_cons]
  have he : ev cl (.slc (.var 3 PD.e0 p0) (.some (.num 1 0 p0)) .none p0 p0) [x0, x1, x2, some (.ref j), x4, x5, some h.d, x7] g = .ok (.ref g.length) (g ++ [DO.lst ((PS.map Ex.d).drop 1)]) := by
    apply eq_of_w
    simp -implicitDefEqProofs [R.w, slc1 hj]
  rw [x_forE he (seq_ref at_new)]
  refine for_l (PS.drop 1) Ex.d (fun i δ gi => gi = g ++ [DO.lst ((PS.map Ex.d).drop 1)] ∧ ∃ y7, δ = [x0, x1, x2, some (.ref j), x4, x5, some ((((PS.drop 1).take i).foldl .ad h)).d, y7]) (by simp; omega) (fun i δ gi ⟨e, _⟩ => by rw [e, List.map_drop]; exact seq_ref at_new) (fun i hi δ gi ⟨e, y7, hδ⟩ => ?_) (fun δ gi ⟨e, y7, hδ⟩ => ?_) _ _ ⟨rfl, x7, rfl⟩
  · subst hδ
    refine ⟨[x0, x1, x2, some (.ref j), x4, x5, some ((((PS.drop 1).take i).foldl .ad h)).d, some ((PS.drop 1)[i]).d], rfl, ?_⟩
    simp -implicitDefEqProofs only [s28b, x_cons, x_nil, x_asg, w_tup, wa_cons, wa_nil, w_txt, w_var]
    refine ⟨e, some ((PS.drop 1)[i]).d, ?_⟩
    rw [List.take_succ_eq_append_getElem hi, List.foldl_append]
    rfl
  · subst hδ
    rw [List.take_length]
    show Qr _ _
    rw [e]
    exact hq _ (Gr.add _ _)
theorem s28m_w {cl : Nat → List D → G → PD.R D} {x0 x2 x4 x5 x6 x7 : Option D} (k j : Nat) (c : Int) (L : List Ce) (g0 g : G) (hc : Cel g k L) (hL : okL L) (hl : L.length < 900000) (hj : g[j]? = some (.lst ((ps0 c).map Ex.d))) (gr : Gr g0 g) (h0 : g0.length ≤ j) (hkj : ∀ q ∈ L, q.2 < j)
    {Qn : Sl → G → Prop} {Qr : D → G → Prop} {Es : Str → Fs → Sl → G → Prop} (hq : ∀ g', Gr g0 g' → Qr (told (ps0 c ++ ((isort ltX (L.map (·.1))).filter nz).map oneF)).d g') :
    (exes cl s28m [x0, some (.ref k), x2, some (.ref j), x4, x5, x6, x7] g).sat Qn Qr Es := by
  unfold s28m
  rw [x_cons]
  have srt := sort_c L hc.row hc.cell hL
  have hS : (isort (fun a b : Ce => ltX a.1 b.1) L).map (·.1) = isort ltX (L.map (·.1)) := isort_map (lt := fun a b : Ce => ltX a.1 b.1) (lu := ltX) (·.1) fun _ _ _ _ => rfl
  have hp := isort_perm (lt := fun a b : Ce => ltX a.1 b.1) L
  generalize isort (fun a b : Ce => ltX a.1 b.1) L = S at *
  have he : ev cl (.blt .sorted p0 (.cons (.var 1 PD.e0 p0) .nil) p0) [x0, some (.ref k), x2, some (.ref j), x4, x5, x6, x7] g = .ok (.ref g.length) (g ++ [DO.lst (S.map fun q => D.ref q.2)]) := srt
  rw [x_forE he (seq_ref at_new)]
  have hjl := (List.getElem?_eq_some_iff.mp hj).1
  have hSl : S.length = L.length := hp.length_eq
  refine for_l S (fun q => D.ref q.2) (fun i δ gi => Gr g0 gi ∧ gi[g.length]? = some (.lst (S.map fun q => D.ref q.2)) ∧ (∀ q ∈ L, gi[q.2]? = some (.lst [q.1.1.d, .int q.1.2])) ∧ gi[j]? = some (.lst ((ps0 c ++ (((S.map (·.1)).take i).filter nz).map oneF).map Ex.d)) ∧ ∃ y4 y5, δ = [x0, some (.ref k), x2, some (.ref j), y4, y5, x6, x7]) (by omega) (fun i δ gi ⟨_, e, _⟩ => seq_ref e) (fun i hi δ gi ⟨gri, hs, hcell, hji, y4, y5, hδ⟩ => ?_) (fun δ gi ⟨gri, hs, hcell, hji, y4, y5, hδ⟩ => ?_) _ _ ⟨gr.trans (Gr.add _ _), at_new, fun q hq => at_old (hc.cell q hq), by simpa using at_old hj, x4, x5, rfl⟩
  · subst hδ
    have hm : S[i] ∈ L := hp.mem_iff.mp (List.getElem_mem hi)
    have hci := hcell _ hm
    have hjil := (List.getElem?_eq_some_iff.mp hji).1
    refine ⟨[x0, some (.ref k), x2, some (.ref j), some S[i].1.1.d, some (.int S[i].1.2), x6, x7], ?_, ?_⟩
    · show (match seqD (.ref S[i].2) gi with
        | some ds => Tg.puts [(.name 4 PD.e0 p0), (.name 5 PD.e0 p0)] gi ds _
        | none => none) = _
      rw [seq_ref hci]
      rfl
    · have tk : ((S.map (·.1)).take (i + 1)).filter nz = ((S.map (·.1)).take i).filter nz ++ (if nz S[i].1 = true then [S[i].1] else []) := by
        rw [filt_snoc nz (S.map (·.1)) i (by simpa using hi)]
        simp
      have hlen : ((ps0 c ++ (((S.map (·.1)).take i).filter nz).map oneF).map Ex.d).length < 1000000 := by
        have h1 : (ps0 c).length ≤ 1 := by unfold ps0; split <;> simp
        have h2 := List.length_filter_le nz ((S.map (·.1)).take i)
        simp only [List.length_map, List.length_append, List.length_take] at h2 ⊢
        omega
      by_cases ez : S[i].1.2 = 0
      · have hz : nz S[i].1 = false := by simp [nz, ez]
        have t0 : ((S.map (·.1)).take (i + 1)).filter nz = ((S.map (·.1)).take i).filter nz := by rw [tk, hz]; simp
        rw [← t0] at hji
        have this := And.intro gri (And.intro hs (And.intro hcell hji))
        simp -implicitDefEqProofs only [s28a, x_cons, x_nil, x_ifs, u_cmp, w_var, w_num]
        simp -implicitDefEqProofs [ez]
        simpa -implicitDefEqProofs using this
      · have hnz : nz S[i].1 = true := by simp [nz, ez]
        have fin : ∀ v : D, v = (oneF S[i].1).d → Gr g0 (gi.set j (.lst ((ps0 c ++ (((S.map (·.1)).take i).filter nz).map oneF).map Ex.d ++ [v]))) ∧ (gi.set j (.lst ((ps0 c ++ (((S.map (·.1)).take i).filter nz).map oneF).map Ex.d ++ [v])))[g.length]? = some (.lst (S.map fun q => D.ref q.2)) ∧ (∀ q ∈ L, (gi.set j (.lst ((ps0 c ++ (((S.map (·.1)).take i).filter nz).map oneF).map Ex.d ++ [v])))[q.2]? = some (.lst [q.1.1.d, .int q.1.2])) ∧ (gi.set j (.lst ((ps0 c ++ (((S.map (·.1)).take i).filter nz).map oneF).map Ex.d ++ [v])))[j]? = some (.lst ((ps0 c ++ (((S.map (·.1)).take (i + 1)).filter nz).map oneF).map Ex.d)) := fun v hv => by
          refine ⟨gri.set h0 _, by rw [List.getElem?_set_ne (by omega)]; exact hs, fun q hq => by rw [List.getElem?_set_ne (by have := hkj q hq; omega)]; exact hcell q hq, ?_⟩
          rw [List.getElem?_set_self hjil, tk, if_pos hnz, hv]
          simp
        by_cases eo : S[i].1.2 = 1
        · have := fin S[i].1.1.d (by unfold oneF; rw [if_pos eo])
          have l := hlen
          simp -implicitDefEqProofs only [s28a, x_cons, x_nil, x_ifs, u_cmp, w_var, w_num, x_exp, w_mth, wa_cons, wa_nil, w_ife]
          simp -implicitDefEqProofs [eo, isl_ref hji, app_w hji hlen]
          simpa -implicitDefEqProofs using this
        · have := fin (.tup [.str "times", .int S[i].1.2, S[i].1.1.d]) (by unfold oneF; rw [if_neg eo]; rfl)
          simp -implicitDefEqProofs only [s28a, x_cons, x_nil, x_ifs, u_cmp, w_var, w_num, x_exp, w_mth, wa_cons, wa_nil, w_ife]
          simp -implicitDefEqProofs [eo, ez, isl_ref hji, app_w hji hlen, sizeLine_eq]
          simpa -implicitDefEqProofs using this
  · subst hδ
    have hfull : ((S.map (·.1)).take S.length).filter nz = (isort ltX (L.map (·.1))).filter nz := by rw [← hS, List.take_of_length_le (by simp)]
    rw [hfull] at hji
    have hall : ∀ q ∈ isort ltX (L.map (·.1)), q.1.nk ∧ q.1.dep ≤ 50 := fun q hq => by
      obtain ⟨r, hr, e⟩ := List.mem_map.mp ((isort_perm _).mem_iff.mp hq)
      rw [← e]; exact hL r hr
    have hflen : ((isort ltX (L.map (·.1))).filter nz).length ≤ L.length := by
      have h2 := List.length_filter_le nz (isort ltX (L.map (·.1)))
      have h3 := (isort_perm (lt := ltX) (L.map (·.1))).length_eq
      rw [List.length_map] at h3
      omega
    have hps : (ps0 c).length ≤ 1 := by unfold ps0; split <;> simp
    generalize hPS : ps0 c ++ ((isort ltX (L.map (·.1))).filter nz).map oneF = PS at *
    have hPSl : PS.length < 1000000 := by rw [← hPS, List.length_append, List.length_map]; omega
    have hPSok : ∀ q ∈ PS, q.nk ∧ q.dep ≤ 55 := fun q hq => by
      rw [← hPS] at hq
      rcases List.mem_append.mp hq with z | z
      · unfold ps0 at z
        split at z
        · rw [List.mem_singleton.mp z]; exact ⟨trivial, by show 1 ≤ 55; omega⟩
        · exact absurd z (by simp)
      · obtain ⟨r, hr, e⟩ := List.mem_map.mp z
        have hr1 := hall r (List.mem_filter.mp hr).1
        have := one_dep r
        rw [← e]
        exact ⟨one_all Ex.nk (fun k a ha => ha) r hr1.1, by omega⟩
    have en : ∀ {Q : D → G → Prop} {Ec : Str → Fs → G → Prop}, (cmpD .NotEq (.ref j) (.ref gi.length) (gi ++ [DO.lst []])).sat Q Ec = Q (.bl (!PS.isEmpty)) (gi ++ [DO.lst []]) := fun {Q Ec} => neNilX PS (at_old hji) at_new hPSok
    have fin := fun (h : Ex) (hh : (PS.drop 1).foldl .ad h = told PS) => s28r_w (cl := cl) (x0 := x0) (x1 := some (.ref k)) (x2 := x2) (x4 := y4) (x5 := y5) (x7 := x7) j h PS (gi ++ [DO.lst []]) (at_old hji) hPSl (Qn := Qn) (Qr := Qr) (Es := Es) fun g' gr' => by rw [hh]; exact hq g' ((gri.trans (Gr.add _ _)).trans gr')
    cases PS with
    | nil =>
      have := fin (.num 0) rfl
      simp -implicitDefEqProofs only [Ex.d] at this
      simp -implicitDefEqProofs [en, sizeLine_eq]
      exact this
    | cons h T =>
      have := fin h rfl
      have hz := seq_ref (at_old (t := [DO.lst []]) hji)
      simp -implicitDefEqProofs [en, sizeLine_eq, i0_ hz]
      exact this
end K74
set_option linter.all false
set_option maxRecDepth 100000
set_option maxHeartbeats 4000000
/-! k74: the law's plain form, joined. -/
namespace K74
open PySem PySem.Spec PyProof.Rows L2 PD
theorem r28 (n : Nat) (t : Ex) (hk : t.nk) (hd : (ip t).dep ≤ 50) (hl : t.lv < 900000) (h : G27 n t.d t 1) : Gv (n + 1) 28 t.d (pl t).d := by
  intro g
  rw [run_er (F := f28) rfl e28 rfl, b28_eq]
  have hc0 : Cel (g ++ [DO.lst []]) g.length [] := ⟨at_new, fun q hq => absurd hq (by simp), List.nodup_nil, fun q hq => absurd hq (by simp)⟩
  have kk := fun q hq => ga_nk (ip t) 1 (ip_nk t hk) q hq
  have gl := Nat.le_trans (ga_len (ip t) 1) (ip_lv t)
  simp -implicitDefEqProofs [R.w, fin_w, startD, sizeLine_eq]
  refine w_mono (h g.length [] _ hc0 (fun q hq => absurd hq (by simp)) (by simpa using Nat.lt_of_lt_of_le hl (by omega))) fun y g1 ⟨e1, L, hc, hm, bl⟩ => ?_
  subst e1
  have gr1 : Gr g g1 := ((Bel.of_gr (k := g.length) (Gr.add g [DO.lst []]) (Nat.le_refl _)).trans bl).gr
  have hm : L.map (·.1) = asc (ga (ip t) 1).2 [] := hm
  have hL : okL L := fun q hq => by
    have : q.1 ∈ asc (ga (ip t) 1).2 [] := hm ▸ List.mem_map.mpr ⟨q, hq, rfl⟩
    exact asc_V (fun e => e.nk ∧ e.dep ≤ 50) _ _ (fun r hr => ⟨(kk r hr).1, Nat.le_trans (kk r hr).2 hd⟩) (fun r hr => absurd hr (by simp)) _ this
  have hlen : L.length < 900000 := by
    have h1 := congrArg List.length hm
    have h2 := asc_len (ga (ip t) 1).2 []
    simp only [List.length_map, List.length_nil] at h1 h2
    omega
  have hF : (isort ltX (L.map (·.1))).filter nz = (fm (ip t)).2 := by
    rw [hm, ← (asc_sortX (ga (ip t) 1).2 fun x hx => (kk x hx).1).2]
    rfl
  have key := fun {x0 x2 x4 x5 x6 x7 : Option D} {Qn : Sl → G → Prop} {Qr : D → G → Prop} {Es : Str → Fs → Sl → G → Prop} (g2 : G) (c : Int) (e : g2 = g1 ++ [DO.lst ((ps0 c).map Ex.d)]) (hq : ∀ g', Gr g g' → Qr (told (ps0 c ++ ((isort ltX (L.map (·.1))).filter nz).map oneF)).d g') => s28m_w (cl := runF P.T n) (x0 := x0) (x2 := x2) (x4 := x4) (x5 := x5) (x6 := x6) (x7 := x7) (Qn := Qn) (Qr := Qr) (Es := Es) g.length g1.length c L g g2 (by rw [e]; exact hc.gr (Gr.add _ _)) hL hlen (by rw [e]; exact at_new) (by rw [e]; exact gr1.trans (Gr.add _ _)) gr1.len (fun q hq => (List.getElem?_eq_some_iff.mp (hc.cell q hq)).1) hq
  have fin : told (ps0 (ga (ip t) 1).1 ++ ((isort ltX (L.map (·.1))).filter nz).map oneF) = pl t := by
    rw [hF, ← pcs_told]; rfl
  by_cases e : (ga (ip t) 1).1 = 0
  · simp -implicitDefEqProofs [e, sizeLine_eq]
    refine key _ 0 rfl fun g' gr' => ?_
    rw [e] at fin
    rw [fin]
    exact ⟨rfl, gr'⟩
  · simp -implicitDefEqProofs [e, sizeLine_eq]
    refine key _ (ga (ip t) 1).1 (by unfold ps0; rw [if_pos e]; rfl) fun g' gr' => ?_
    rw [fin]
    exact ⟨rfl, gr'⟩
structure Okd (a : Ex) (k : Int) : Prop where
  k1 : 1 ≤ k
  k2 : k ≤ 100
  nk : a.nk
  dip : (ip a).dep ≤ 50
  dpl : (pl a).dep ≤ 49
  mag : a.mag < 2 ^ 64
  lv : a.lv < 900000
def Okl : Ex → Prop
  | .num _ => True
  | .nam _ => True
  | .ad a b => Okl a ∧ Okl b
  | .sb a b => Okl a ∧ Okl b
  | .tim _ a => Okl a
  | .dv a k => Okl a ∧ Okd a k
  | .md a k => Okl a ∧ Okd a k
theorem r27 : ∀ (t : Ex) (m : Int) (n : Nat), Okl t → t.nk → (ip t).dep ≤ 50 → m.natAbs * t.mag < 2 ^ 64 → 2 * t.dep ≤ n → G27 n t.d t m
  | .num i, m, n, _, _, _, hm, h => by
    obtain ⟨n, rfl⟩ : ∃ j, n = j + 1 := ⟨n - 1, by have : 2 * 1 ≤ n := h; omega⟩
    exact r27_num n i m (Nat.lt_of_le_of_lt (Nat.le_mul_of_pos_right _ (mag1 _)) hm)
  | .nam x, m, n, _, hk, _, _, h => by
    obtain ⟨n, rfl⟩ : ∃ j, n = j + 1 := ⟨n - 1, by have : 2 * 1 ≤ n := h; omega⟩
    exact r27_nam n x m hk
  | .ad a b, m, n, o, hk, hd, hm, h => by
    have h : 2 * (max a.dep b.dep + 1) ≤ n := h
    obtain ⟨n, rfl⟩ : ∃ j, n = j + 1 := ⟨n - 1, by omega⟩
    have hd : max (ip a).dep (ip b).dep + 1 ≤ 50 := hd
    have hm : m.natAbs * (a.mag + b.mag) < 2 ^ 64 := hm
    rw [Nat.mul_add] at hm
    exact r27_add n m _ _ a b (r27 a m n o.1 hk.1 (by omega) (by omega) (by omega)) (r27 b m n o.2 hk.2 (by omega) (by omega) (by omega)) fun q hq => by
      have := ga_nk (ip a) m (ip_nk a hk.1) q hq
      exact ⟨this.1, by omega⟩
  | .sb a b, m, n, o, hk, hd, hm, h => by
    have h : 2 * (max a.dep b.dep + 1) ≤ n := h
    obtain ⟨n, rfl⟩ : ∃ j, n = j + 1 := ⟨n - 1, by omega⟩
    have hd : max (ip a).dep (ip b).dep + 1 ≤ 50 := hd
    have hm : m.natAbs * (a.mag + b.mag) < 2 ^ 64 := hm
    rw [Nat.mul_add] at hm
    exact r27_sub n m _ _ a b (r27 a m n o.1 hk.1 (by omega) (by omega) (by omega)) (r27 b (-m) n o.2 hk.2 (by omega) (by rw [Int.natAbs_neg]; omega) (by omega)) fun q hq => by
      have := ga_nk (ip a) m (ip_nk a hk.1) q hq
      exact ⟨this.1, by omega⟩
  | .tim i a, m, n, o, hk, hd, hm, h => by
    have h : 2 * (a.dep + 1) ≤ n := h
    obtain ⟨n, rfl⟩ : ∃ j, n = j + 1 := ⟨n - 1, by omega⟩
    have hd : (ip a).dep + 1 ≤ 50 := hd
    have hm' : m.natAbs < 2 ^ 64 := Nat.lt_of_le_of_lt (Nat.le_mul_of_pos_right _ (mag1 _)) hm
    refine r27_tim n i m a.d a hm' (r27 a (m * i) n o hk (by omega) ?_ (by omega))
    rw [Int.natAbs_mul, Nat.mul_assoc]
    exact Nat.lt_of_le_of_lt (Nat.mul_le_mul_left _ (Nat.mul_le_mul_right _ (Nat.le_max_right _ _))) hm
  | .dv a i, m, n, o, hk, _, hm, h => by
    have h : 2 * (a.dep + 1) ≤ n := h
    obtain ⟨n, rfl⟩ : ∃ j, n = j + 2 := ⟨n - 2, by omega⟩
    have q := o.2
    have hm' : m.natAbs < 2 ^ 64 := Nat.lt_of_le_of_lt (Nat.le_mul_of_pos_right _ (mag1 _)) hm
    exact r27_dv (n + 1) a.d a i m hm' q.k1 q.k2 (r28 n a q.nk q.dip q.lv (r27 a 1 n o.1 q.nk q.dip (by simpa using q.mag) (by omega))) (pl_nk a q.nk) q.dpl
  | .md a i, m, n, o, hk, _, hm, h => by
    have h : 2 * (a.dep + 1) ≤ n := h
    obtain ⟨n, rfl⟩ : ∃ j, n = j + 2 := ⟨n - 2, by omega⟩
    have q := o.2
    have hm' : m.natAbs < 2 ^ 64 := Nat.lt_of_le_of_lt (Nat.le_mul_of_pos_right _ (mag1 _)) hm
    exact r27_md (n + 1) a.d a i m hm' q.k1 q.k2 (r28 n a q.nk q.dip q.lv (r27 a 1 n o.1 q.nk q.dip (by simpa using q.mag) (by omega))) (pl_nk a q.nk) q.dpl
theorem Inp.okd {a : Ex} (h : Inp a) (h4 : a.dep ≤ 4) {k : Int} (hk : 1 ≤ k ∧ k ≤ 100) : Okd a k := by
  have h1 := pl_dep a
  have h2 : 2 ^ a.dep ≤ 16 := Nat.pow_le_pow_right (n := 2) (by omega) h4
  have h3 := ip_dep a
  have h5 := lv2 a
  exact ⟨hk.1, hk.2, h.nk, by omega, by omega, h.mag, by omega⟩
theorem Inp.okl : ∀ {t : Ex}, Inp t → Okl t
  | .num _, _ => trivial
  | .nam _, _ => trivial
  | .ad _ _, h => ⟨h.a1.1.okl, h.a1.2.okl⟩
  | .sb _ _, h => ⟨h.s1.1.okl, h.s1.2.okl⟩
  | .tim _ _, h => h.t1.okl
  | .dv _ _, h => ⟨h.d1.1.okl, h.d1.1.okd h.d1.2 h.kb.2⟩
  | .md _ _, h => ⟨h.m1.1.okl, h.m1.1.okd h.m1.2 h.kb.2⟩
theorem pf_okl {a : Ex} (h : ∀ q ∈ (ga (ip a) 1).2, Okl q.1) : Okl (pf (ip a)) :=
  pcs_all Okl (fun a b ha hb => ⟨ha, hb⟩) _ _ trivial fun q hq => one_all Okl (fun k a ha => ha) q (by
    obtain ⟨r, hr, e⟩ := fm_key (ip a) hq
    rw [← e]; exact h r hr)
theorem okd_pl {a : Ex} {k : Int} (h : Okd a k) (h2 : Inp a) : Okd (pl a) k :=
  ⟨h.k1, h.k2, pl_nk a h.nk, by rw [ip_pl a h.nk]; have := h.dpl; omega, by rw [pl_pl a h.nk]; exact h.dpl, (pl_fit h2).mag, by
    have h6 := pf_lv (ip a)
    have h4 := ip_lv a
    have h5 := lv2 a
    have h7 := p32 h2.dep
    show (pf (ip a)).lv < _
    omega⟩
theorem okl_pc : ∀ t : Ex, Inp t → ∀ m, ∀ q ∈ (ga (ip t) m).2, Okl q.1 := by
  intro t
  induction t with
  | num i => intro _ m q hq; simp [ip, ga] at hq
  | nam x => intro _ m q hq; simp [ip, ga] at hq; subst hq; exact trivial
  | ad a b ha hb => intro h m q hq; exact (List.mem_append.mp hq).elim (ha h.a1.1 m q) (hb h.a1.2 m q)
  | sb a b ha hb => intro h m q hq; exact (List.mem_append.mp hq).elim (ha h.s1.1 m q) (hb h.s1.2 (-m) q)
  | tim k a ha => intro h m q hq; exact ha h.t1 (m * k) q hq
  | dv a k ha =>
    intro h m q hq
    rw [ip_dv] at hq
    cases hn : isN (pf (ip a)) with
    | true =>
      obtain ⟨i, e⟩ := isN_yes hn
      rw [e] at hq
      simp [dvE, ga] at hq
    | false =>
      rw [dvE_no hn] at hq
      simp [ga] at hq
      subst hq
      exact ⟨pf_okl (ha h.d1.1 1), okd_pl (h.d1.1.okd h.d1.2 h.kb.2) h.d1.1⟩
  | md a k ha =>
    intro h m q hq
    rw [ip_md] at hq
    cases hn : isN (pf (ip a)) with
    | true =>
      obtain ⟨i, e⟩ := isN_yes hn
      rw [e] at hq
      simp [mdE, ga] at hq
    | false =>
      rw [mdE_no hn] at hq
      simp [ga] at hq
      subst hq
      exact ⟨pf_okl (ha h.m1.1 1), okd_pl (h.m1.1.okd h.m1.2 h.kb.2) h.m1.1⟩
theorem Inp.oklp {t : Ex} (h : Inp t) : Okl (pl t) := pf_okl (okl_pc t h 1)
/-- the law's plain form -/
theorem p28 {t : Ex} (h : Inp t) (n : Nat) (hn : 11 ≤ n) : Gv n 28 t.d (pl t).d := by
  obtain ⟨n, rfl⟩ : ∃ j, n = j + 1 := ⟨n - 1, by omega⟩
  have h1 := ip_dep t
  have h2 := p32 h.dep
  have h3 := h.dep
  have h5 := lv2 t
  exact r28 n t h.nk (by omega) (by omega) (r27 t 1 n h.okl h.nk (by omega) (by simpa using h.mag) (by omega))
/-- one more than a plain form -/
theorem one_ip {t : Ex} (h : Inp t) : ip (.ad (pl t) (.num 1)) = .ad (pl t) (.num 1) := by simp only [ip]; rw [ip_pl t h.nk]
theorem p28o {t : Ex} (h : Inp t) (h2 : t.dep ≤ 2) (hm : t.mag < 2 ^ 63) (n : Nat) (hn : 25 ≤ n) : Gv n 28 (Ex.ad (pl t) (.num 1)).d (pl (.ad (pl t) (.num 1))).d := by
  obtain ⟨n, rfl⟩ : ∃ j, n = j + 1 := ⟨n - 1, by omega⟩
  have a1 := pl_dep t
  have a2 : 2 ^ t.dep ≤ 4 := Nat.pow_le_pow_right (n := 2) (by omega) h2
  have a3 := Nat.le_trans (pf_m (ip t)) (ip_m t h.kb)
  have a4 := (pl_fit h).lv
  have a6 := pf_lv (ip t)
  have a7 := ip_lv t
  have a8 := lv2 t
  have a3 : (pl t).mag ≤ t.mag := a3
  have a6 : (pl t).lv ≤ (ip t).lv + 1 := a6
  refine r28 n (.ad (pl t) (.num 1)) ⟨pl_nk t h.nk, trivial⟩ ?_ ?_ (r27 (.ad (pl t) (.num 1)) 1 n ⟨h.oklp, trivial⟩ ⟨pl_nk t h.nk, trivial⟩ ?_ ?_ ?_)
  · rw [one_ip h]; show max (pl t).dep 1 + 1 ≤ 50; omega
  · show (pl t).lv + 1 < 900000; omega
  · rw [one_ip h]; show max (pl t).dep 1 + 1 ≤ 50; omega
  · show (1 : Int).natAbs * ((pl t).mag + max 1 (1 : Int).natAbs) < 2 ^ 64
    simp; omega
  · show 2 * (max (pl t).dep 1 + 1) ≤ n; omega
end K74
set_option linter.all false
set_option maxRecDepth 100000
set_option maxHeartbeats 4000000
/-! k74: the stream; loosened things. -/
namespace K74
open PySem PySem.Spec PyProof.Rows L2 PD
theorem drw (n : Nat) (hn : 1 ≤ n) : DrawS (runF P.T n) 19 := by
  obtain ⟨n, rfl⟩ : ∃ j, n = j + 1 := ⟨n - 1, by omega⟩
  exact draw_run (F := f19) rfl (e19.trans rfl) rfl rfl n
theorem pck (n : Nat) (hn : 2 ≤ n) : PickS (runF P.T n) 20 := by
  obtain ⟨n, rfl⟩ : ∃ j, n = j + 1 := ⟨n - 1, by omega⟩
  exact pick_run (F := f20) (fd := 19) rfl (e20.trans rfl) rfl rfl n (drw n (by omega))
theorem sme (k : Nat) (x y : D) (g : G) (n : Nat) (h : Sm g k x y) (hn : k + 1 ≤ n) : (runF P.T n 21 [x, y] g).w fun r g' => r = .bl true ∧ Gr g g' := by
  have := same_run (P := P.T) (f := 21) (F := f21) rfl (e21.trans rfl) rfl rfl k x y g (n - k - 1) h
  rw [show n - k - 1 + k + 1 = n from by omega] at this
  exact this
inductive LzB (b : Nat) (g : G) : Nat → D → D → Prop
  | atom {k : Nat} {d : D} : atomB d = true → LzB b g k d d
  | seq {k : Nat} {d : D} {ds es : List D} : (∀ n, d = .ref n → b ≤ n) → seqD d g = some ds → es.length = ds.length → ds.length < 1000 → (∀ (i : Nat) (x y : D), ds[i]? = some x → es[i]? = some y → LzB b g k x y) → LzB b g (k + 1) d (.tup es)
theorem LzB.lz {b : Nat} {g : G} {k : Nat} {d e : D} (h : LzB b g k d e) : Lz g k d e := by
  induction h with
  | atom h => exact .atom h
  | seq _ h1 h2 h3 _ ih => exact .seq h1 h2 h3 ih
theorem LzB.low {b c : Nat} {g : G} {k : Nat} {d e : D} (h : LzB b g k d e) (hc : c ≤ b) : LzB c g k d e := by
  induction h with
  | atom h => exact .atom h
  | seq h0 h1 h2 h3 _ ih => exact .seq (fun n e => Nat.le_trans hc (h0 n e)) h1 h2 h3 ih
theorem LzB.sx {b : Nat} {g g' : G} (r : Sx b g g') {k : Nat} {d e : D} (h : LzB b g k d e) : LzB b g' k d e := by
  induction h with
  | atom h => exact .atom h
  | @seq k d ds es h0 h1 h2 h3 _ ih =>
    refine .seq h0 ?_ h2 h3 ih
    rcases seq_cases h1 with rfl | rfl | ⟨n, rfl, en⟩
    · rfl
    · rfl
    · exact seq_ref (r.at (h0 n rfl) en)
inductive Pd : Nat → D → Prop
  | atom {k : Nat} {d : D} : atomB d = true → Pd k d
  | tup {k : Nat} {es : List D} : es.length < 1000 → (∀ x ∈ es, Pd k x) → Pd (k + 1) (.tup es)
mutual
def tn : D → Nat
  | .tup xs => tns xs + 1
  | _ => 0
def tns : List D → Nat
  | [] => 0
  | x :: xs => tn x + tns xs
end
theorem tns_take (es : List D) (i : Nat) (h : i < es.length) : tns (es.take (i + 1)) = tns (es.take i) + tn es[i] := by
  induction es generalizing i with
  | nil => simp at h
  | cons x xs ih =>
    cases i with
    | zero => simp [tns]
    | succ i =>
      rw [List.take_succ_cons, List.take_succ_cons]
      simp only [tns, List.getElem_cons_succ]
      rw [ih i (by simpa using h)]
      omega
@[simp] theorem n22 : f22.N.length = 4 := rfl
theorem r22 : ∀ (k : Nat) (e : D) (z : Spot) (T : Nat) (g : G) (n : Nat), Pd k e → Stm z T g → T + tn e < 2 ^ 39 → (runF P.T (n + k + 2) 22 [.ref z.s, e] g).w fun y g' => LzB g.length g' k y e ∧ Stm z (T + tn e) g' ∧ Sx z.b g g' := by
  have hat : ∀ (k : Nat) (e : D) (z : Spot) (T : Nat) (g : G) (n : Nat), atomB e = true → Stm z T g → (runF P.T (n + k + 2) 22 [.ref z.s, e] g).w fun y g' => LzB g.length g' k y e ∧ Stm z (T + tn e) g' ∧ Sx z.b g g' := fun k e z T g n h st => by
    rw [show n + k + 2 = (n + k + 1) + 1 from rfl, run_er (F := f22) rfl e22 rfl]
    have a1 : dIsi e (.tup [.ty B.list.id, .ty B.tuple.id]) g = some false := (atom_no h g).1
    have t0 : tn e = 0 := by cases e <;> first | rfl | cases h
    simp -implicitDefEqProofs [R.w, fin_w, startD, b22, sizeLine_eq, a1]
    exact ⟨.atom h, by rw [t0]; exact st, Sx.refl _ _⟩
  intro k
  induction k with
  | zero =>
    intro e z T g n h st hT
    cases h with
    | atom h => exact hat 0 e z T g n h st
  | succ k ih =>
    intro e z T g n h st hT
    cases h with
    | atom h => exact hat (k + 1) e z T g n h st
    | @tup _ es hl hh =>
      rw [show n + (k + 1) + 2 = (n + k + 2) + 1 from by omega, run_er (F := f22) rfl e22 rfl]
      have a1 : dIsi (.tup es) (.tup [.ty B.list.id, .ty B.tuple.id]) g = some true := rfl
      have hT' : T + (tns es + 1) < 2 ^ 39 := hT
      have bg := st.len
      simp -implicitDefEqProofs [R.w, fin_w, startD, b22, sizeLine_eq, a1]
      refine lc_inv es id (fun i acc gi => acc.length = i ∧ gi[g.length]? = some (.lst acc) ∧ Stm z (T + tns (es.take i)) gi ∧ Sx z.b g gi ∧ ∀ (j : Nat) (x y : D), acc[j]? = some x → es[j]? = some y → LzB (g.length + 1) gi k x y) (by omega) (evI_seq (x := .tup es) (ds := es) rfl rfl) (fun i acc gi ⟨h1, h2, h3, h4, h5⟩ => ⟨by rw [List.map_id]; rfl, h2, by omega⟩) ⟨rfl, at_new, by simpa [tns] using st.gr (Gr.add _ _), Sx.gr (Gr.add _ _), fun j x y hx _ => by simp at hx⟩ (fun i hi acc gi ⟨h1, h2, h3, h4, h5⟩ => ?_) fun acc g' ⟨h1, h2, h3, h4, h5⟩ => ?_
      · refine ⟨[some (.ref z.s), some (.tup es), none, some es[i]], rfl, ?_⟩
        have tk := tns_take es i hi
        have hle : tns (es.take (i + 1)) ≤ tns es := by
          have : ∀ (xs : List D) (j : Nat), tns (xs.take j) ≤ tns xs := fun xs => by
            induction xs with
            | nil => intro j; simp
            | cons x xs ih => intro j; cases j with
              | zero => simp [tns]
              | succ j => rw [List.take_succ_cons]; simp only [tns]; have := ih j; omega
          exact this es (i + 1)
        have c := ih es[i] z (T + tns (es.take i)) gi n (hh _ (List.getElem_mem hi)) h3 (by omega)
        simp -implicitDefEqProofs [R.w]
        refine w_mono c fun y g3 ⟨c1, c2, c3⟩ => ?_
        have hk3 := c3.at bg h2
        have hgl := (List.getElem?_eq_some_iff.mp h2).1
        have hset : Sx (g.length + 1) g3 (g3.set g.length (.lst (acc ++ [y]))) := (Sx.refl _ g3).set _ (by omega)
        refine ⟨hk3, by simp [h1], Gr.set_at (List.getElem?_eq_some_iff.mp hk3).1, ?_, (h4.trans c3).set_new _ (Nat.le_refl _), fun j x w hx hw => ?_⟩
        · rw [tk, ← Nat.add_assoc]; exact c2.set _ bg
        · by_cases hj : j < acc.length
          · rw [List.getElem?_append_left hj] at hx
            exact (LzB.sx (c3.up (by omega)) (h5 j x w hx hw)).sx hset
          · have hj2 := (List.getElem?_eq_some_iff.mp hx).1
            simp at hj2
            have : j = i := by omega
            subst this
            rw [List.getElem?_append_right (by omega), h1, Nat.sub_self] at hx
            cases hx
            rw [List.getElem?_eq_getElem hi] at hw
            cases hw
            exact (c1.low (by omega)).sx hset
      · rw [List.take_length] at h3
        have hgl := (List.getElem?_eq_some_iff.mp h2).1
        refine w_mono (drw _ (by omega) z _ g' 2 h3 (by omega) (by omega) (by omega)) fun y g2 ⟨⟨r, r0, r1, e⟩, st2, sx2⟩ => ?_
        subst e
        have hk2 := sx2.at bg h2
        have fin : ∀ d, (d = .ref g.length ∨ d = .tup acc) → LzB g.length g2 (k + 1) d (.tup es) := fun d hd => by
          refine .seq (ds := acc) (fun n e => ?_) ?_ h1.symm (by omega) fun j x w hx hw => ((h5 j x w hx hw).sx (sx2.up (by omega))).low (by omega)
          · rcases hd with hd | hd
            · rw [hd] at e; cases e; exact Nat.le_refl _
            · rw [hd] at e; cases e
          · rcases hd with rfl | rfl
            · exact seq_ref hk2
            · rfl
        have st3 : Stm z (T + tn (.tup es)) g2 := st2
        by_cases er : r = 0
        · simp -implicitDefEqProofs [er]
          exact ⟨fin _ (.inl rfl), st3, h4.trans sx2⟩
        · simp -implicitDefEqProofs [er]
          have ht : ∀ {Q : D → G → Prop} {Ex : Str → Fs → G → Prop}, (bltD .tuple [.ref g.length] g2).sat Q Ex = Q (.tup acc) g2 := fun {Q Ex} => by
            show (match seqD (.ref g.length) g2 with
              | some ds => PD.R.ok (D.tup ds) g2
              | none => PD.R.bad).sat Q Ex = _
            rw [seq_ref hk2]; rfl
          rw [ht]
          exact ⟨fin _ (.inr rfl), st3, h4.trans sx2⟩
end K74
set_option linter.all false
set_option maxRecDepth 100000
set_option maxHeartbeats 4000000
/-! k74: drawn expressions. -/
namespace K74
open PySem PySem.Spec PyProof.Rows L2 PD
def Ex.ns (N : List Str) : Ex → Prop
  | .num _ => True
  | .nam x => x ∈ N
  | .ad a b => a.ns N ∧ b.ns N
  | .sb a b => a.ns N ∧ b.ns N
  | .tim _ a => a.ns N
  | .dv a _ => a.ns N
  | .md a _ => a.ns N
structure Nms (N : List Str) : Prop where
  ne : N ≠ []
  len : N.length ≤ 100
  ok : ∀ x ∈ N, PyData.strOk x = true
theorem ns_nk {N : List Str} (h : Nms N) : ∀ t : Ex, t.ns N → t.nk
  | .num _, _ => trivial
  | .nam x, e => h.ok x e
  | .ad a b, e => ⟨ns_nk h a e.1, ns_nk h b e.2⟩
  | .sb a b, e => ⟨ns_nk h a e.1, ns_nk h b e.2⟩
  | .tim _ a, e => ns_nk h a e
  | .dv a _, e => ns_nk h a e
  | .md a _, e => ns_nk h a e
structure Dr (N : List Str) (d : Nat) (t : Ex) : Prop where
  ns : t.ns N
  kb : t.kb
  dep : t.dep ≤ d + 1
  mag : t.mag ≤ 5 * 3 ^ d
def Kx : Nat → Nat
  | 0 => 4
  | d + 1 => 2 * Kx d + 5
theorem strs_p (g : G) (k : Nat) : ∀ ns : List Str, allP (toP g (k + 1)) (ns.map D.str) = some (ns.map PyData.str)
  | [] => rfl
  | n :: ns => by
    show (match toP g (k + 1) (.str n), allP (toP g (k + 1)) (ns.map D.str) with
      | some x, some xs => some (x :: xs)
      | _, _ => none) = _
    rw [strs_p g k ns]; rfl
theorem strs_lay : ∀ ns : List Str, (∀ x ∈ ns, PyData.strOk x = true) → PyData.canLayAll0 (ns.map PyData.str) = true ∧ PyData.depthAll (ns.map PyData.str) ≤ 1
  | [], _ => ⟨rfl, by simp [PyData.depthAll]⟩
  | n :: ns, h => by
    have := strs_lay ns fun x hx => h x (List.mem_cons_of_mem _ hx)
    exact ⟨by simp [PyData.canLayAll0, PyData.canLay0, this.1, h n List.mem_cons_self], by simp [PyData.depthAll, PyData.depth]; exact this.2⟩
theorem eq_nil_strs {g : G} {a b : Nat} (ns : List Str) (h : ∀ x ∈ ns, PyData.strOk x = true) (ha : g[a]? = some (.lst (ns.map D.str))) (hb : g[b]? = some (.lst [])) : dEq (.ref a) (.ref b) g = some ns.isEmpty := by
  have hs : SeqAt.shaped (.list (ns.map PyData.str)) = true := by
    obtain ⟨h1, h2⟩ := strs_lay ns h
    unfold SeqAt.shaped
    rw [Bool.and_eq_true, decide_eq_true_iff]
    exact ⟨h1, by simp [PyData.depth]; omega⟩
  have e := PD.eq_nil ha hb (strs_p g 68 ns) hs
  rw [e]
  cases ns <;> rfl
theorem cmpNE_of {x y : D} {g : G} {b : Bool} (h : dEq x y g = some b) {Q : D → G → Prop} {Ec : Str → Fs → G → Prop} : (cmpD .NotEq x y g).sat Q Ec = Q (.bl (!b)) g := by
  show (ofB ((dEq x y g).map (!·)) g).sat Q Ec = _
  rw [h]; rfl
theorem cmpEQ_of {x y : D} {g : G} {b : Bool} (h : dEq x y g = some b) {Q : D → G → Prop} {Ec : Str → Fs → G → Prop} : (cmpD .Eq x y g).sat Q Ec = Q (.bl b) g := by
  show (ofB (dEq x y g) g).sat Q Ec = _
  rw [h]; rfl
@[simp] theorem n23 : f23.N.length = 5 := rfl
theorem p3 (d : Nat) : 1 ≤ 3 ^ d := Nat.one_le_pow _ _ (by omega)
theorem r23 (N : List Str) (hN : Nms N) : ∀ (d : Nat) (z : Spot) (T : Nat) (g : G) (kn n : Nat), Stm z T g → T + Kx d < 2 ^ 39 → g[kn]? = some (.lst (N.map D.str)) → z.b ≤ kn → d + 4 ≤ n →
    (runF P.T n 23 [.ref z.s, .ref kn, .int (d : Int)] g).w fun y g' => (∃ t : Ex, y = t.d ∧ Dr N d t) ∧ Stm z (T + Kx d) g' ∧ Sx z.b g g' := by
  intro d
  induction d with
  | zero =>
    intro z T g kn n st hT hk hb hn
    obtain ⟨n, rfl⟩ : ∃ j, n = j + 1 := ⟨n - 1, by omega⟩
    have hT : T + 4 < 2 ^ 39 := hT
    have bg := st.len
    have hne : (N.map D.str) ≠ [] := by simpa using hN.ne
    have hemp : N.isEmpty = false := by cases N with
      | nil => exact absurd rfl hN.ne
      | cons _ _ => rfl
    rw [run_er (F := f23) rfl e23 rfl]
    simp -implicitDefEqProofs [R.w, fin_w, startD, b23, sizeLine_eq]
    refine w_mono (drw n (by omega) z T g 4 st (by omega) (by omega) (by omega)) fun y g1 ⟨⟨r, r0, r1, e⟩, st1, sx1⟩ => ?_
    subst e
    have hk1 := sx1.at hb hk
    by_cases h2 : r < 2
    · have st2 : Stm z (T + 1) (g1 ++ [DO.lst []]) := st1.gr (Gr.add _ _)
      have en := eq_nil_strs N hN.ok (at_old (t := [DO.lst []]) hk1) (at_new (t := []))
      simp -implicitDefEqProofs [h2, cmpNE_of en, hemp]
      refine w_mono (pck n (by omega) z (T + 1) _ kn (N.map D.str) st2 (by omega) (at_old hk1) hb hne (by have := hN.len; rw [List.length_map]; omega)) fun y g2 ⟨⟨i, hi, e⟩, st3, sx3⟩ => ?_
      subst e
      rw [List.length_map] at hi
      refine ⟨⟨.nam N[i], by rw [List.getElem_map]; rfl, ⟨List.getElem_mem hi, trivial, Nat.le_refl _, by show 1 ≤ 5 * 3 ^ 0; omega⟩⟩, st3.up (by show T + 1 + 1 ≤ T + 4; omega), (sx1.trans (Sx.gr (Gr.add _ _))).trans sx3⟩
    · simp -implicitDefEqProofs [h2, r1]
      refine w_mono (drw n (by omega) z (T + 1) g1 9 st1 (by omega) (by omega) (by omega)) fun y g2 ⟨⟨q, q0, q1, e⟩, st2, sx2⟩ => ?_
      subst e
      simp -implicitDefEqProofs
      refine ⟨⟨.num (q - 3), rfl, ⟨trivial, trivial, Nat.le_refl _, by show max 1 (q - 3).natAbs ≤ 5 * 3 ^ 0; omega⟩⟩, st2.up (by show T + 1 + 1 ≤ T + 4; omega), sx1.trans sx2⟩
  | succ d ih =>
    intro z T g kn n st hT hk hb hn
    obtain ⟨n, rfl⟩ : ∃ j, n = j + 1 := ⟨n - 1, by omega⟩
    have hT : T + (2 * Kx d + 5) < 2 ^ 39 := hT
    have bg := st.len
    have hne : (N.map D.str) ≠ [] := by simpa using hN.ne
    have hemp : N.isEmpty = false := by cases N with
      | nil => exact absurd rfl hN.ne
      | cons _ _ => rfl
    have p1 := p3 d
    have hps : 3 ^ (d + 1) = 3 * 3 ^ d := by rw [Nat.pow_succ, Nat.mul_comm]
    have dpos : (0 : Int) < (d : Int) + 1 := by omega
    have dm : (d : Int) + 1 - 1 = d := by omega
    rw [run_er (F := f23) rfl e23 rfl]
    simp -implicitDefEqProofs only [R.w, fin_w, startD, b23, n23, List.map, List.length, List.replicate, x_cons, x_asg, w_ife, u_cmp, w_var, w_num, List.cons_append, List.nil_append, List.getElem?_cons_zero, List.getElem?_cons_succ, Option.join_some, some_w, gtI, asB_w]
    rw [show (((d + 1 : Nat) : Int)) = (d : Int) + 1 from by push_cast; rfl]
    simp -implicitDefEqProofs [dpos, sizeLine_eq]
    refine w_mono (drw n (by omega) z T g 9 st (by omega) (by omega) (by omega)) fun y g1 ⟨⟨r, r0, r1, e⟩, st1, sx1⟩ => ?_
    subst e
    have hk1 := sx1.at hb hk
    by_cases h2 : r < 2
    · have st2 : Stm z (T + 1) (g1 ++ [DO.lst []]) := st1.gr (Gr.add _ _)
      have en := eq_nil_strs N hN.ok (at_old (t := [DO.lst []]) hk1) (at_new (t := []))
      simp -implicitDefEqProofs [h2, cmpNE_of en, hemp]
      refine w_mono (pck n (by omega) z (T + 1) _ kn (N.map D.str) st2 (by omega) (at_old hk1) hb hne (by have := hN.len; rw [List.length_map]; omega)) fun y g2 ⟨⟨i, hi, e⟩, st3, sx3⟩ => ?_
      subst e
      rw [List.length_map] at hi
      refine ⟨⟨.nam N[i], by rw [List.getElem_map]; rfl, ⟨List.getElem_mem hi, trivial, by show 1 ≤ _; omega, by show 1 ≤ 5 * 3 ^ (d + 1); omega⟩⟩, st3.up (by show T + 1 + 1 ≤ T + (2 * Kx d + 5); omega), (sx1.trans (Sx.gr (Gr.add _ _))).trans sx3⟩
    · by_cases h4 : r < 4
      · simp -implicitDefEqProofs [h2, h4]
        refine w_mono (drw n (by omega) z (T + 1) g1 9 st1 (by omega) (by omega) (by omega)) fun y g2 ⟨⟨q, q0, q1, e⟩, st2, sx2⟩ => ?_
        subst e
        simp -implicitDefEqProofs
        refine ⟨⟨.num (q - 3), rfl, ⟨trivial, trivial, by show 1 ≤ _; omega, by show max 1 (q - 3).natAbs ≤ 5 * 3 ^ (d + 1); omega⟩⟩, st2.up (by show T + 1 + 1 ≤ T + (2 * Kx d + 5); omega), sx1.trans sx2⟩
      · have st2 : Stm z (T + 1) (g1 ++ [DO.lst []]) := st1.gr (Gr.add _ _)
        have sx2 : Sx z.b g (g1 ++ [DO.lst []]) := sx1.trans (Sx.gr (Gr.add _ _))
        have hk2 := at_old (t := [DO.lst []]) hk1
        have en := eq_nil_strs N hN.ok hk2 (at_new (t := []))
        simp -implicitDefEqProofs [h2, h4, cmpEQ_of en, hemp, dm]
        refine w_mono (ih z (T + 1) _ kn n st2 (by omega) hk2 hb (by omega)) fun y g2 ⟨⟨t, e, dt⟩, st3, sx3⟩ => ?_
        subst e
        have hk3 := sx3.at hb hk2
        have sx4 := sx2.trans sx3
        by_cases h7 : r < 7
        · simp -implicitDefEqProofs [h7, dm]
          refine w_mono (pck n (by omega) z (T + 1 + Kx d) _ g2.length [.str "add", .str "add", .str "sub"] (st3.gr (Gr.add _ _)) (by omega) at_new st3.len (by simp) (by simp)) fun y g3 ⟨⟨i, hi, e⟩, st5, sx5⟩ => ?_
          subst e
          have hk5 := sx5.at hb (at_old (t := [DO.lst [.str "add", .str "add", .str "sub"]]) hk3)
          refine w_mono (ih z _ g3 kn n st5 (by omega) hk5 hb (by omega)) fun y g4 ⟨⟨u, e, du⟩, st6, sx6⟩ => ?_
          subst e
          have m1 := dt.mag
          have m2 := du.mag
          have d1 := dt.dep
          have d2 := du.dep
          have fin1 : Stm z (T + Kx (d + 1)) g4 := st6.up (by show _ ≤ T + (2 * Kx d + 5); omega)
          have fin2 : Sx z.b g g4 := ((sx4.trans (Sx.gr (Gr.add _ _))).trans sx5).trans sx6
          have dA : Dr N (d + 1) (.ad t u) := ⟨⟨dt.ns, du.ns⟩, ⟨dt.kb, du.kb⟩, by show max t.dep u.dep + 1 ≤ _; omega, by show t.mag + u.mag ≤ _; omega⟩
          have dS : Dr N (d + 1) (.sb t u) := ⟨⟨dt.ns, du.ns⟩, ⟨dt.kb, du.kb⟩, by show max t.dep u.dep + 1 ≤ _; omega, by show t.mag + u.mag ≤ _; omega⟩
          have hi3 : i < 3 := by simpa using hi
          rcases (by omega : i = 0 ∨ i = 1 ∨ i = 2) with rfl | rfl | rfl
          · exact ⟨⟨.ad t u, rfl, dA⟩, fin1, fin2⟩
          · exact ⟨⟨.ad t u, rfl, dA⟩, fin1, fin2⟩
          · exact ⟨⟨.sb t u, rfl, dS⟩, fin1, fin2⟩
        · by_cases h8 : r = 7
          · simp -implicitDefEqProofs [h7, h8]
            refine w_mono (drw n (by omega) z _ g2 6 st3 (by omega) (by omega) (by omega)) fun y g3 ⟨⟨q, q0, q1, e⟩, st5, sx5⟩ => ?_
            subst e
            simp -implicitDefEqProofs
            have m1 := dt.mag
            have d1 := dt.dep
            have hm : max 1 (q - 2).natAbs * t.mag ≤ 3 * (5 * 3 ^ d) := Nat.mul_le_mul (by omega) m1
            exact ⟨⟨.tim (q - 2) t, rfl, ⟨dt.ns, dt.kb, by show t.dep + 1 ≤ _; omega, by show max 1 (q - 2).natAbs * t.mag ≤ 5 * 3 ^ (d + 1); omega⟩⟩, st5.up (by show _ ≤ T + (2 * Kx d + 5); omega), sx4.trans sx5⟩
          · simp -implicitDefEqProofs [h7, h8]
            refine w_mono (pck n (by omega) z (T + 1 + Kx d) _ g2.length [.str "div", .str "mod"] (st3.gr (Gr.add _ _)) (by omega) at_new st3.len (by simp) (by simp)) fun y g3 ⟨⟨i, hi, e⟩, st5, sx5⟩ => ?_
            subst e
            refine w_mono (drw n (by omega) z _ g3 5 st5 (by omega) (by omega) (by omega)) fun y g4 ⟨⟨q, q0, q1, e⟩, st6, sx6⟩ => ?_
            subst e
            simp -implicitDefEqProofs
            have m1 := dt.mag
            have d1 := dt.dep
            have fin1 : Stm z (T + Kx (d + 1)) g4 := st6.up (by show _ ≤ T + (2 * Kx d + 5); omega)
            have fin2 : Sx z.b g g4 := ((sx4.trans (Sx.gr (Gr.add _ _))).trans sx5).trans sx6
            have dD : Dr N (d + 1) (.dv t (1 + q)) := ⟨dt.ns, ⟨dt.kb, by omega, by omega⟩, by show t.dep + 1 ≤ _; omega, by show t.mag ≤ _; omega⟩
            have dM : Dr N (d + 1) (.md t (1 + q)) := ⟨dt.ns, ⟨dt.kb, by omega, by omega⟩, by show t.dep + 1 ≤ _; omega, by show max t.mag (1 + q).natAbs ≤ _; omega⟩
            have hi3 : i < 2 := by simpa using hi
            rcases (by omega : i = 0 ∨ i = 1) with rfl | rfl
            · exact ⟨⟨.dv t (1 + q), rfl, dD⟩, fin1, fin2⟩
            · exact ⟨⟨.md t (1 + q), rfl, dM⟩, fin1, fin2⟩
end K74
set_option linter.all false
set_option maxRecDepth 100000
set_option maxHeartbeats 4000000
/-! k74: worth; conditions; holds. -/
namespace K74
open PySem PySem.Spec PyProof.Rows L2 PD
structure Env (g : G) (m : Nat) (N : List Str) (ρ : Str → Int) : Prop where
  at_ : ∃ kvs, g[m]? = some (.dic kvs) ∧ ∀ x ∈ N, getK (.inr x) kvs = some (.int (ρ x))
theorem Env.gr {g g' : G} {m : Nat} {N : List Str} {ρ : Str → Int} (h : Env g m N ρ) (r : Gr g g') : Env g' m N ρ := by
  obtain ⟨kvs, h1, h2⟩ := h.at_
  exact ⟨kvs, r.at h1, h2⟩
theorem Env.sx {b : Nat} {g g' : G} {m : Nat} {N : List Str} {ρ : Str → Int} (h : Env g m N ρ) (r : Sx b g g') (hb : b ≤ m) : Env g' m N ρ := by
  obtain ⟨kvs, h1, h2⟩ := h.at_
  exact ⟨kvs, r.at hb h1, h2⟩
theorem Env.get {g : G} {m : Nat} {N : List Str} {ρ : Str → Int} (h : Env g m N ρ) {x : Str} (hx : x ∈ N) {Q : D → G → Prop} {Ec : Str → Fs → G → Prop} : (dIdx (.ref m) (.str x) g).sat Q Ec = Q (.int (ρ x)) g := by
  obtain ⟨kvs, h1, h2⟩ := h.at_
  have : dIdxO (.ref m) (.str x) g = some (.int (ρ x)) := by
    show (match g[m]? with
      | some (.lst ds) => atD ds (.str x)
      | some (.dic kvs) => getD' kvs (.str x)
      | _ => none) = _
    rw [h1]
    exact h2 x hx
  unfold dIdx; rw [this]; rfl
@[simp] theorem n25 : f25.N.length = 3 := rfl
@[simp] theorem n26 : f26.N.length = 3 := rfl
section
variable {n : Nat} {g : G} {m : Nat}
theorem r25_num (i : Int) : runF P.T (n + 1) 25 [(Ex.num i).d, .ref m] g = .ok (.int i) g := by
  apply eq_of_w
  rw [run_er (F := f25) rfl e25 rfl]
  simp -implicitDefEqProofs [R.w, fin_w, startD, b25, Ex.d, sizeLine_eq, eqS ok_number ok_number]
theorem r25_nam {N : List Str} {ρ : Str → Int} (h : Env g m N ρ) {x : Str} (hx : x ∈ N) : runF P.T (n + 1) 25 [(Ex.nam x).d, .ref m] g = .ok (.int (ρ x)) g := by
  apply eq_of_w
  rw [run_er (F := f25) rfl e25 rfl]
  simp -implicitDefEqProofs [R.w, fin_w, startD, b25, Ex.d, sizeLine_eq, eqS ok_name ok_number, eqS ok_name ok_name, h.get hx]
theorem r25_tim (k v : Int) (a : D) (hk : k.natAbs < 2 ^ 64) (h : runF P.T n 25 [a, .ref m] g = .ok (.int v) g) : runF P.T (n + 1) 25 [.tup [.str "times", .int k, a], .ref m] g = .ok (.int (k * v)) g := by
  apply eq_of_w
  rw [run_er (F := f25) rfl e25 rfl]
  simp -implicitDefEqProofs [R.w, fin_w, startD, b25, sizeLine_eq, eqS ok_times ok_number, eqS ok_times ok_name, eqS ok_times ok_times, h, ok_w, mulOk_of hk]
theorem r25_dv (k v : Int) (a : D) (hk : divOk k = true) (h : runF P.T n 25 [a, .ref m] g = .ok (.int v) g) : runF P.T (n + 1) 25 [.tup [.str "div", a, .int k], .ref m] g = .ok (.int (v / k)) g := by
  apply eq_of_w
  rw [run_er (F := f25) rfl e25 rfl]
  simp -implicitDefEqProofs [R.w, fin_w, startD, b25, sizeLine_eq, eqS ok_div ok_number, eqS ok_div ok_name, eqS ok_div ok_times, eqS ok_div ok_div, h, ok_w, hk]
theorem r25_md (k v : Int) (a : D) (hk : divOk k = true) (hk2 : k.natAbs < 2 ^ 64) (h : runF P.T n 25 [a, .ref m] g = .ok (.int v) g) : runF P.T (n + 1) 25 [.tup [.str "mod", a, .int k], .ref m] g = .ok (.int (v % k)) g := by
  apply eq_of_w
  rw [run_er (F := f25) rfl e25 rfl]
  simp -implicitDefEqProofs [R.w, fin_w, startD, b25, sizeLine_eq, eqS ok_mod ok_number, eqS ok_mod ok_name, eqS ok_mod ok_times, eqS ok_mod ok_div, eqS ok_mod ok_mod, h, ok_w, hk, mulOk_of hk2, Int.emod_def]
theorem r25_add (v w : Int) (a b : D) (h : runF P.T n 25 [a, .ref m] g = .ok (.int v) g) (h2 : runF P.T n 25 [b, .ref m] g = .ok (.int w) g) : runF P.T (n + 1) 25 [.tup [.str "add", a, b], .ref m] g = .ok (.int (v + w)) g := by
  apply eq_of_w
  rw [run_er (F := f25) rfl e25 rfl]
  simp -implicitDefEqProofs [R.w, fin_w, startD, b25, sizeLine_eq, eqS ok_add ok_number, eqS ok_add ok_name, eqS ok_add ok_times, eqS ok_add ok_div, eqS ok_add ok_mod, eqS ok_add ok_add, h, h2, ok_w]
theorem r25_sub (v w : Int) (a b : D) (h : runF P.T n 25 [a, .ref m] g = .ok (.int v) g) (h2 : runF P.T n 25 [b, .ref m] g = .ok (.int w) g) : runF P.T (n + 1) 25 [.tup [.str "sub", a, b], .ref m] g = .ok (.int (v - w)) g := by
  apply eq_of_w
  rw [run_er (F := f25) rfl e25 rfl]
  simp -implicitDefEqProofs [R.w, fin_w, startD, b25, sizeLine_eq, eqS ok_sub ok_number, eqS ok_sub ok_name, eqS ok_sub ok_times, eqS ok_sub ok_div, eqS ok_sub ok_mod, eqS ok_sub ok_add, h, h2, ok_w]
theorem r25 {N : List Str} {ρ : Str → Int} (h : Env g m N ρ) : ∀ (t : Ex) (n : Nat), t.ns N → t.kb → t.mag < 2 ^ 64 → t.dep ≤ n → runF P.T n 25 [t.d, .ref m] g = .ok (.int (wv ρ t)) g
  | .num i, n, _, _, _, hn => by
    obtain ⟨n, rfl⟩ : ∃ j, n = j + 1 := ⟨n - 1, by have : 1 ≤ n := hn; omega⟩
    exact r25_num i
  | .nam x, n, hx, _, _, hn => by
    obtain ⟨n, rfl⟩ : ∃ j, n = j + 1 := ⟨n - 1, by have : 1 ≤ n := hn; omega⟩
    exact r25_nam h hx
  | .ad a b, n, hx, hk, hm, hn => by
    have hn : max a.dep b.dep + 1 ≤ n := hn
    obtain ⟨n, rfl⟩ : ∃ j, n = j + 1 := ⟨n - 1, by omega⟩
    have hm : a.mag + b.mag < 2 ^ 64 := hm
    exact r25_add _ _ _ _ (r25 h a n hx.1 hk.1 (by omega) (by omega)) (r25 h b n hx.2 hk.2 (by omega) (by omega))
  | .sb a b, n, hx, hk, hm, hn => by
    have hn : max a.dep b.dep + 1 ≤ n := hn
    obtain ⟨n, rfl⟩ : ∃ j, n = j + 1 := ⟨n - 1, by omega⟩
    have hm : a.mag + b.mag < 2 ^ 64 := hm
    exact r25_sub _ _ _ _ (r25 h a n hx.1 hk.1 (by omega) (by omega)) (r25 h b n hx.2 hk.2 (by omega) (by omega))
  | .tim k a, n, hx, hk, hm, hn => by
    have hn : a.dep + 1 ≤ n := hn
    obtain ⟨n, rfl⟩ : ∃ j, n = j + 1 := ⟨n - 1, by omega⟩
    have hm : max 1 k.natAbs * a.mag < 2 ^ 64 := hm
    have h1 := Nat.le_mul_of_pos_right (max 1 k.natAbs) (mag1 a)
    have h2 := Nat.le_mul_of_pos_left (a.mag) (show 0 < max 1 k.natAbs by omega)
    exact r25_tim k _ _ (by omega) (r25 h a n hx hk (by omega) (by omega))
  | .dv a k, n, hx, hk, hm, hn => by
    have hn : a.dep + 1 ≤ n := hn
    obtain ⟨n, rfl⟩ : ∃ j, n = j + 1 := ⟨n - 1, by omega⟩
    exact r25_dv k _ _ (divOk_of hk.2.1 hk.2.2) (r25 h a n hx hk.1 hm (by omega))
  | .md a k, n, hx, hk, hm, hn => by
    have hn : a.dep + 1 ≤ n := hn
    obtain ⟨n, rfl⟩ : ∃ j, n = j + 1 := ⟨n - 1, by omega⟩
    have hm : max a.mag k.natAbs < 2 ^ 64 := hm
    exact r25_md k _ _ (divOk_of hk.2.1 hk.2.2) (by omega) (r25 h a n hx hk.1 (by omega) (by omega))
end
/-! ### conditions -/
inductive Cw where
  | lt | le | eq | ne
def Cw.w : Cw → Str
  | .lt => "lt" | .le => "le" | .eq => "eq" | .ne => "ne"
inductive Co where
  | cm (w : Cw) (a b : Ex)
  | nt (c : Co)
  | an (a b : Co)
  | orr (a b : Co)
def Co.d : Co → D
  | .cm w a b => .tup [.str w.w, a.d, b.d]
  | .nt c => .tup [.str "not", c.d]
  | .an a b => .tup [.str "and", a.d, b.d]
  | .orr a b => .tup [.str "or", a.d, b.d]
def Co.dep : Co → Nat
  | .cm _ _ _ => 1
  | .nt c => c.dep + 1
  | .an a b => max a.dep b.dep + 1
  | .orr a b => max a.dep b.dep + 1
def Co.all (V : Ex → Prop) : Co → Prop
  | .cm _ a b => V a ∧ V b
  | .nt c => c.all V
  | .an a b => a.all V ∧ b.all V
  | .orr a b => a.all V ∧ b.all V
def Cw.v (w : Cw) (l : Int) : Bool := match w with
  | .lt => decide (l < 0)
  | .le => decide (l ≤ 0)
  | .eq => l == 0
  | .ne => !(l == 0)
def hv (ρ : Str → Int) : Co → Bool
  | .cm w a b => w.v (wv ρ a - wv ρ b)
  | .nt c => !(hv ρ c)
  | .an a b => hv ρ a && hv ρ b
  | .orr a b => hv ρ a || hv ρ b
theorem ok_cw (w : Cw) : PyData.strOk w.w = true := by cases w <;> first | exact ok_lt | exact ok_le | exact ok_eq | exact ok_ne
theorem cw_not (w : Cw) : (w.w == "not") = false := by cases w <;> decide +kernel
theorem cw_and (w : Cw) : (w.w == "and") = false := by cases w <;> decide +kernel
theorem cw_or (w : Cw) : (w.w == "or") = false := by cases w <;> decide +kernel
theorem dct4 (b1 b2 b3 b4 : D) (g : G) {Q : D → G → Prop} {Ec : Str → Fs → G → Prop} : (fillD g.length [.str "lt", b1, .str "le", b2, .str "eq", b3, .str "ne", b4] (g ++ [.dic []])).sat Q Ec = Q (.ref g.length) (g ++ [.dic [(.inr "lt", b1), (.inr "le", b2), (.inr "eq", b3), (.inr "ne", b4)]]) := by
  have h1 : kvsD [.str "lt", b1, .str "le", b2, .str "eq", b3, .str "ne", b4] = some [(.inr "lt", b1), (.inr "le", b2), (.inr "eq", b3), (.inr "ne", b4)] := rfl
  have h2 : mergeD [((.inr "lt" : Key), b1), (.inr "le", b2), (.inr "eq", b3), (.inr "ne", b4)] = [(.inr "lt", b1), (.inr "le", b2), (.inr "eq", b3), (.inr "ne", b4)] := by kernel_rfl
  unfold fillD
  rw [h1, at_new]
  show (if _ then PD.R.ok (D.ref g.length) ((g ++ [DO.dic []]).set g.length (.dic (mergeD _))) else .bad).sat Q Ec = _
  rw [h2, if_pos (by simp)]
  show Q _ _ = _
  rw [List.set_append_right _ _ (Nat.le_refl _), Nat.sub_self]; rfl
theorem dct4_get (w : Cw) (b1 b2 b3 b4 : D) (g : G) {Q : D → G → Prop} {Ec : Str → Fs → G → Prop} : (dIdx (.ref g.length) (.str w.w) (g ++ [.dic [(.inr "lt", b1), (.inr "le", b2), (.inr "eq", b3), (.inr "ne", b4)]])).sat Q Ec = Q (match w with | .lt => b1 | .le => b2 | .eq => b3 | .ne => b4) (g ++ [.dic [(.inr "lt", b1), (.inr "le", b2), (.inr "eq", b3), (.inr "ne", b4)]]) := by
  have : dIdxO (.ref g.length) (.str w.w) (g ++ [.dic [(.inr "lt", b1), (.inr "le", b2), (.inr "eq", b3), (.inr "ne", b4)]]) = some (match w with | .lt => b1 | .le => b2 | .eq => b3 | .ne => b4) := by
    show (match (g ++ [DO.dic [(.inr "lt", b1), (.inr "le", b2), (.inr "eq", b3), (.inr "ne", b4)]])[g.length]? with
      | some (.lst ds) => atD ds (.str w.w)
      | some (.dic kvs) => getD' kvs (.str w.w)
      | _ => none) = _
    rw [at_new]
    cases w <;> kernel_rfl
  unfold dIdx; rw [this]; rfl
end K74
set_option linter.all false
set_option maxRecDepth 100000
set_option maxHeartbeats 4000000
/-! k74: holds; drawn conditions. -/
namespace K74
open PySem PySem.Spec PyProof.Rows L2 PD
structure Wo (N : List Str) (t : Ex) : Prop where
  ns : t.ns N
  kb : t.kb
  mag : t.mag < 2 ^ 64
  dep : t.dep ≤ 46
theorem r26 {N : List Str} {ρ : Str → Int} {m : Nat} : ∀ (c : Co) (n : Nat) (g : G), Env g m N ρ → c.all (Wo N) → c.dep + 46 ≤ n → (runF P.T n 26 [c.d, .ref m] g).w fun y g' => y = .bl (hv ρ c) ∧ Gr g g'
  | .cm w a b, n, g, h, hc, hn => by
    have hn : 1 + 46 ≤ n := hn
    obtain ⟨n, rfl⟩ : ∃ j, n = j + 1 := ⟨n - 1, by omega⟩
    have ha := hc.1
    have hb := hc.2
    have h0 := h.gr (Gr.add g [DO.dic []])
    have c1 := fun {g : G} (h : Env g m N ρ) => r25 h a n ha.ns ha.kb ha.mag (by have := ha.dep; omega)
    have c2 := fun {g : G} (h : Env g m N ρ) => r25 h b n hb.ns hb.kb hb.mag (by have := hb.dep; omega)
    rw [run_er (F := f26) rfl e26 rfl]
    simp -implicitDefEqProofs [R.w, fin_w, startD, b26, Co.d, sizeLine_eq, eqS (ok_cw w) ok_not, eqS (ok_cw w) ok_and, eqS (ok_cw w) ok_or, cw_not, cw_and, cw_or, c1 h, c2 h, ok_w, dct4, dct4_get]
    refine ⟨?_, Gr.add _ _⟩
    cases w <;> rfl
  | .nt c, n, g, h, hc, hn => by
    have hn : c.dep + 1 + 46 ≤ n := hn
    obtain ⟨n, rfl⟩ : ∃ j, n = j + 1 := ⟨n - 1, by omega⟩
    rw [run_er (F := f26) rfl e26 rfl]
    simp -implicitDefEqProofs [R.w, fin_w, startD, b26, Co.d, sizeLine_eq, eqS ok_not ok_not]
    refine w_mono (r26 c n g h hc (by omega)) fun y g1 ⟨e, gr⟩ => ?_
    subst e
    simp -implicitDefEqProofs
    exact ⟨by simp [hv], gr⟩
  | .an a b, n, g, h, hc, hn => by
    have hn : max a.dep b.dep + 1 + 46 ≤ n := hn
    obtain ⟨n, rfl⟩ : ∃ j, n = j + 1 := ⟨n - 1, by omega⟩
    rw [run_er (F := f26) rfl e26 rfl]
    simp -implicitDefEqProofs [R.w, fin_w, startD, b26, Co.d, sizeLine_eq, eqS ok_and ok_not, eqS ok_and ok_and]
    refine w_mono (r26 a n g h hc.1 (by omega)) fun y g1 ⟨e, gr⟩ => ?_
    subst e
    cases ea : hv ρ a with
    | false => simp -implicitDefEqProofs [hv, ea]; exact gr
    | true =>
      simp -implicitDefEqProofs [hv, ea]
      refine w_mono (r26 b n g1 (h.gr gr) hc.2 (by omega)) fun y g2 ⟨e, gr2⟩ => ?_
      exact ⟨e, gr.trans gr2⟩
  | .orr a b, n, g, h, hc, hn => by
    have hn : max a.dep b.dep + 1 + 46 ≤ n := hn
    obtain ⟨n, rfl⟩ : ∃ j, n = j + 1 := ⟨n - 1, by omega⟩
    rw [run_er (F := f26) rfl e26 rfl]
    simp -implicitDefEqProofs [R.w, fin_w, startD, b26, Co.d, sizeLine_eq, eqS ok_or ok_not, eqS ok_or ok_and, eqS ok_or ok_or]
    refine w_mono (r26 a n g h hc.1 (by omega)) fun y g1 ⟨e, gr⟩ => ?_
    subst e
    cases ea : hv ρ a with
    | true => simp -implicitDefEqProofs [hv, ea]; exact gr
    | false =>
      simp -implicitDefEqProofs [hv, ea]
      refine w_mono (r26 b n g1 (h.gr gr) hc.2 (by omega)) fun y g2 ⟨e, gr2⟩ => ?_
      exact ⟨e, gr.trans gr2⟩
/-! ### drawn conditions -/
def Kc : Nat → Nat
  | 0 => 40
  | d + 1 => 2 * Kc d + 40
@[simp] theorem n24 : f24.N.length = 7 := rfl
theorem cw4 (i : Nat) (hi : i < 4) : ∃ w : Cw, ([.str "lt", .str "le", .str "eq", .str "ne"] : List D)[i]'(by simpa using hi) = .str w.w := by
  rcases (by omega : i = 0 ∨ i = 1 ∨ i = 2 ∨ i = 3) with rfl | rfl | rfl | rfl
  · exact ⟨.lt, rfl⟩
  · exact ⟨.le, rfl⟩
  · exact ⟨.eq, rfl⟩
  · exact ⟨.ne, rfl⟩
def Dco (N : List Str) (d : Nat) (c : Co) : Prop := c.all (Dr N 1) ∧ c.dep ≤ d + 1
theorem r24_cm (N : List Str) (hN : Nms N) (z : Spot) (T : Nat) (g : G) (kn n : Nat) (st : Stm z T g) (hT : T + 39 < 2 ^ 39) (hk : g[kn]? = some (.lst (N.map D.str))) (hb : z.b ≤ kn) (hn : 5 ≤ n) (Q : D → G → Prop)
    (hq : ∀ w a b g', Dr N 1 a → Dr N 1 b → Stm z (T + 39) g' → Sx z.b g g' → Q (Co.cm w a b).d g') :
    (runF P.T n 23 [.ref z.s, .ref kn, .int 1] g).w fun x g1 => (runF P.T n 23 [.ref z.s, .ref kn, .int 1] g1).w fun y g2 => (runF P.T n 20 [.ref z.s, .ref g2.length] (g2 ++ [DO.lst [.str "lt", .str "le", .str "eq", .str "ne"]])).w fun w g3 => Q (.tup [w, x, y]) g3 := by
  have k1 : Kx 1 = 13 := rfl
  refine w_mono (r23 N hN 1 z T g kn n st (by omega) hk hb (by omega)) fun x g1 ⟨⟨a, e, da⟩, st1, sx1⟩ => ?_
  subst e
  have hk1 := sx1.at hb hk
  refine w_mono (r23 N hN 1 z _ g1 kn n st1 (by omega) hk1 hb (by omega)) fun y g2 ⟨⟨b, e, db⟩, st2, sx2⟩ => ?_
  subst e
  refine w_mono (pck n (by omega) z _ _ g2.length [.str "lt", .str "le", .str "eq", .str "ne"] (st2.gr (Gr.add _ _)) (by omega) at_new st2.len (by simp) (by simp)) fun y g3 ⟨⟨i, hi, e⟩, st3, sx3⟩ => ?_
  obtain ⟨w, ew⟩ := cw4 i (by simpa using hi)
  rw [e, ew]
  exact hq w a b g3 da db (st3.up (by omega)) (((sx1.trans sx2).trans (Sx.gr (Gr.add _ _))).trans sx3)
theorem r24 (N : List Str) (hN : Nms N) : ∀ (d : Nat) (z : Spot) (T : Nat) (g : G) (kn n : Nat), Stm z T g → T + Kc d < 2 ^ 39 → g[kn]? = some (.lst (N.map D.str)) → z.b ≤ kn → d + 6 ≤ n →
    (runF P.T n 24 [.ref z.s, .ref kn, .int (d : Int)] g).w fun y g' => (∃ c : Co, y = c.d ∧ Dco N d c) ∧ Stm z (T + Kc d) g' ∧ Sx z.b g g' := by
  intro d
  induction d with
  | zero =>
    intro z T g kn n st hT hk hb hn
    obtain ⟨n, rfl⟩ : ∃ j, n = j + 1 := ⟨n - 1, by omega⟩
    have hT : T + 40 < 2 ^ 39 := hT
    rw [run_er (F := f24) rfl e24 rfl]
    simp -implicitDefEqProofs [R.w, fin_w, startD, b24, sizeLine_eq]
    refine r24_cm N hN z T g kn n st (by omega) hk hb (by omega) (fun y g' => (∃ c : Co, y = c.d ∧ Dco N 0 c) ∧ Stm z (T + Kc 0) g' ∧ Sx z.b g g') fun w a b g' da db st' sx' => ?_
    exact ⟨⟨.cm w a b, rfl, ⟨da, db⟩, Nat.le_refl _⟩, st'.up (by show T + 39 ≤ T + 40; omega), sx'⟩
  | succ d ih =>
    intro z T g kn n st hT hk hb hn
    obtain ⟨n, rfl⟩ : ∃ j, n = j + 1 := ⟨n - 1, by omega⟩
    have hT : T + (2 * Kc d + 40) < 2 ^ 39 := hT
    have dpos : (0 : Int) < (d : Int) + 1 := by omega
    have dm : (d : Int) + 1 - 1 = d := by omega
    rw [run_er (F := f24) rfl e24 rfl]
    rw [show (((d + 1 : Nat) : Int)) = (d : Int) + 1 from by push_cast; rfl]
    simp -implicitDefEqProofs [R.w, fin_w, startD, b24, sizeLine_eq, dpos]
    refine w_mono (drw n (by omega) z T g 8 st (by omega) (by omega) (by omega)) fun y g1 ⟨⟨r, r0, r1, e⟩, st1, sx1⟩ => ?_
    subst e
    have hk1 := sx1.at hb hk
    by_cases h5 : r < 5
    · simp -implicitDefEqProofs [h5]
      refine r24_cm N hN z (T + 1) g1 kn n st1 (by omega) hk1 hb (by omega) (fun y g' => (∃ c : Co, y = c.d ∧ Dco N (d + 1) c) ∧ Stm z (T + Kc (d + 1)) g' ∧ Sx z.b g g') fun w a b g' da db st' sx' => ?_
      exact ⟨⟨.cm w a b, rfl, ⟨da, db⟩, by show 1 ≤ _; omega⟩, st'.up (by show _ ≤ T + (2 * Kc d + 40); omega), sx1.trans sx'⟩
    · by_cases h6 : r = 5
      · simp -implicitDefEqProofs [h6, dm]
        refine w_mono (ih z _ g1 kn n st1 (by omega) hk1 hb (by omega)) fun y g2 ⟨⟨c, e, dc⟩, st2, sx2⟩ => ?_
        subst e
        exact ⟨⟨.nt c, rfl, dc.1, by show c.dep + 1 ≤ _; have := dc.2; omega⟩, st2.up (by show _ ≤ T + (2 * Kc d + 40); omega), sx1.trans sx2⟩
      · simp -implicitDefEqProofs [h5, h6, dm]
        refine w_mono (pck n (by omega) z _ _ g1.length [.str "and", .str "or"] (st1.gr (Gr.add _ _)) (by omega) at_new st1.len (by simp) (by simp)) fun y g2 ⟨⟨i, hi, e⟩, st2, sx2⟩ => ?_
        subst e
        have hk2 := sx2.at hb (at_old (t := [DO.lst [.str "and", .str "or"]]) hk1)
        refine w_mono (ih z _ g2 kn n st2 (by omega) hk2 hb (by omega)) fun y g3 ⟨⟨a, e, da⟩, st3, sx3⟩ => ?_
        subst e
        have hk3 := sx3.at hb hk2
        refine w_mono (ih z _ g3 kn n st3 (by omega) hk3 hb (by omega)) fun y g4 ⟨⟨b, e, db⟩, st4, sx4⟩ => ?_
        subst e
        have f1 : Stm z (T + Kc (d + 1)) g4 := st4.up (by show _ ≤ T + (2 * Kc d + 40); omega)
        have f2 : Sx z.b g g4 := (((sx1.trans (Sx.gr (Gr.add _ _))).trans sx2).trans sx3).trans sx4
        have a2 := da.2
        have b2 := db.2
        have hi3 : i < 2 := by simpa using hi
        rcases (by omega : i = 0 ∨ i = 1) with rfl | rfl
        · exact ⟨⟨.an a b, rfl, ⟨da.1, db.1⟩, by show max a.dep b.dep + 1 ≤ _; omega⟩, f1, f2⟩
        · exact ⟨⟨.orr a b, rfl, ⟨da.1, db.1⟩, by show max a.dep b.dep + 1 ≤ _; omega⟩, f1, f2⟩
end K74
set_option linter.all false
set_option maxRecDepth 100000
set_option maxHeartbeats 4000000
/-! k74: what counts as a condition; alternatives, their form. -/
namespace K74
open PySem PySem.Spec PyProof.Rows L2 PD
@[simp] theorem n12 : f12.N.length = 2 := rfl
@[simp] theorem n13 : f13.N.length = 1 := rfl
@[simp] theorem n14 : f14.N.length = 3 := rfl
@[simp] theorem n15 : f15.N.length = 2 := rfl
@[simp] theorem n16 : f16.N.length = 6 := rfl
@[simp] theorem n17 : f17.N.length = 1 := rfl
@[simp] theorem n29 : f29.N.length = 10 := rfl
theorem A2.map_eq {β γ : Type} {f : β → γ} : ∀ {xs : List β} {ys : List γ}, A2 (fun x y => y = f x) xs ys → ys = xs.map f
  | _, _, .nil => rfl
  | _, _, .cons a r => by rw [a, A2.map_eq r]; rfl
theorem any_w {k : Nat} {bs : List Bool} {g : G} (hk : g[k]? = some (.lst (bs.map D.bl))) {Q : D → G → Prop} {Ec : Str → Fs → G → Prop} : (bltD .any [.ref k] g).sat Q Ec = Q (.bl (bs.any id)) g := by
  have e : lstD (.ref k) g = some (bs.map D.bl) := by
    show (match g[k]? with
      | some (.lst ds) => some ds
      | _ => none) = _
    rw [hk]
  have e2 : ∀ bs : List Bool, boolsD (bs.map D.bl) = some bs := fun bs => by
    induction bs with
    | nil => rfl
    | cons b bs ih =>
      show (boolsD (bs.map D.bl)).map (b :: ·) = _
      rw [ih]; rfl
  show (ofB (((lstD (.ref k) g).bind boolsD).map fun bs => bs.any id) g).sat Q Ec = _
  rw [e]
  show (ofB ((boolsD (bs.map D.bl)).map fun bs => bs.any id) g).sat Q Ec = _
  rw [e2]; rfl
def words4 : List Str := ["lt", "le", "eq", "ne"]
def cq12 : E := (.blt .any p0 (.cons (.lc (.call 2 PD.e0 p0 (.cons (.var 0 PD.e0 p0) (.cons (.var 1 PD.e0 p0) (.cons (.num 3 0 p0) .nil))) p0) (.name 1 PD.e0 p0) (.seq (.tup (.cons (.txt "lt" 0 p0) (.cons (.txt "le" 0 p0) (.cons (.txt "eq" 0 p0) (.cons (.txt "ne" 0 p0) .nil)))) 0 p0)) .nil s0 [(PD.e0, 1)] p0) .nil) p0)
def s12 : Ss := (.cons
  (.ifs (.bop false (.cons (.call 2 PD.e0 p0 (.cons (.var 0 PD.e0 p0) (.cons (.txt "and" 0 p0) (.cons (.num 3 0 p0) .nil))) p0) (.cons (.call 2 PD.e0 p0 (.cons (.var 0 PD.e0 p0) (.cons (.txt "or" 0 p0) (.cons (.num 3 0 p0) .nil))) p0) .nil)) p0) (.cons
    (.ret (.bop true (.cons (.call 12 PD.e0 p0 (.cons (.idx (.var 0 PD.e0 p0) (.num 1 0 p0) p0) .nil) p0) (.cons (.call 12 PD.e0 p0 (.cons (.idx (.var 0 PD.e0 p0) (.num 2 0 p0) p0) .nil) p0) .nil)) p0) p0)
    .nil) .nil p0)
  (.cons
  (.ret (.bop true (.cons (.call 2 PD.e0 p0 (.cons (.var 0 PD.e0 p0) (.cons (.txt "not" 0 p0) (.cons (.num 2 0 p0) .nil))) p0) (.cons (.call 12 PD.e0 p0 (.cons (.idx (.var 0 PD.e0 p0) (.num 1 0 p0) p0) .nil) p0) .nil)) p0) p0)
  .nil))
theorem b12_eq : b12 = (.cons
  (.ifs cq12 (.cons
    (.ret (.bop true (.cons (.call 5 PD.e0 p0 (.cons (.idx (.var 0 PD.e0 p0) (.num 1 0 p0) p0) .nil) p0) (.cons (.call 5 PD.e0 p0 (.cons (.idx (.var 0 PD.e0 p0) (.num 2 0 p0) p0) .nil) p0) .nil)) p0) p0)
    .nil) .nil p0)
  s12) := rfl
theorem ok_words4 : ∀ x ∈ words4, PyData.strOk x = true := by
  intro x hx
  simp [words4] at hx
  rcases hx with rfl | rfl | rfl | rfl
  · exact ok_lt
  · exact ok_le
  · exact ok_eq
  · exact ok_ne
/-- is it one of the four -/
theorem cq12_w (n : Nat) (d : D) (g : G) (w : Str) (r : List D) (hw : PyData.strOk w = true) (hs : seqD d g = some (.str w :: r)) {x1 : Option D} {Q : Bool → G → Prop} {Ec : Str → Fs → G → Prop}
    (hq : ∀ g', Gr g g' → Q ((r.length == 2) && words4.any fun x => w == x) g') : (evT (runF P.T (n + 2)) cq12 [some d, x1] g).sat Q Ec := by
  simp -implicitDefEqProofs only [cq12, u_blt, wa_cons, wa_nil]
  refine lc_rel words4 D.str (fun x y _ => y = D.bl (((r.length : Int) + 1 == 3) && (w == x))) (fun _ _ _ _ h _ => h) (by simp [words4]) (evI_seq (x := .tup (words4.map D.str)) (ds := words4.map D.str) (g1 := g) ?_ rfl) (fun i gi gr => rfl) (fun x gi hx gr => ?_) fun out g' gr ho h2 => ?_
  · apply eq_of_w
    simp -implicitDefEqProofs [PD.R.w, words4, sizeLine_eq]
  · refine ⟨[some d, some (.str x)], rfl, ?_⟩
    have c := r2a n d gi w x r 3 hw (ok_words4 x hx) (gr.seq hs)
    simp -implicitDefEqProofs [PD.R.w, c, ok_w, Gr.refl]
  · have h3 := A2.map_eq h2
    have h4 : out = ((words4.map fun x => ((r.length : Int) + 1 == 3) && (w == x))).map D.bl := by rw [h3, List.map_map]; rfl
    rw [h4] at ho
    rw [any_w ho]
    simp -implicitDefEqProofs only [truB_w]
    have : ((words4.map fun x => ((r.length : Int) + 1 == 3) && (w == x))).any id = ((r.length == 2) && words4.any fun x => w == x) := by
      have h5 : ((r.length : Int) + 1 == 3) = (r.length == 2) := by
        by_cases e : r.length = 2
        · simp [e]
        · rw [beq_eq_false_iff_ne.mpr e, beq_eq_false_iff_ne]; omega
      rw [h5, List.any_map]
      cases (r.length == 2) <;> simp [words4]
    rw [this]
    exact hq g' gr
theorem lz_two {g : G} {k : Nat} {d a : D} {w : Str} (r : Lz g k d (.tup [.str w, a])) : ∃ j x, k = j + 1 ∧ seqD d g = some [.str w, x] ∧ Lz g j x a := r.two
theorem any_cw (w : Cw) : (words4.any fun x => w.w == x) = true := by cases w <;> decide +kernel
theorem any_and : (words4.any fun x => ("and" : Str) == x) = false := by decide +kernel
theorem any_or : (words4.any fun x => ("or" : Str) == x) = false := by decide +kernel
theorem any_not : (words4.any fun x => ("not" : Str) == x) = false := by decide +kernel
theorem r12 : ∀ (c : Co) (k : Nat) (d : D) (g : G) (n : Nat), c.all (fun t => t.dvs ∧ t.dep ≤ 46) → Lz g k d c.d → c.dep + 49 ≤ n → (runF P.T n 12 [d] g).w fun y g' => y = .bl true ∧ Gr g g'
  | .cm w a b, k, d, g, n, hc, h, hn => by
    have hn : 1 + 49 ≤ n := hn
    obtain ⟨n, rfl⟩ : ∃ j, n = j + 3 := ⟨n - 3, by omega⟩
    obtain ⟨j, x, y, _, hs, hx, hy⟩ := h.three
    rw [run_er (F := f12) rfl e12 rfl, b12_eq]
    simp -implicitDefEqProofs only [PD.R.w, fin_w, startD, n12, List.map, List.length, List.replicate, List.cons_append, List.nil_append, x_cons, x_ifs]
    refine cq12_w n d g w.w [x, y] (ok_cw w) hs fun g' gr => ?_
    have hs' := gr.seq hs
    have c1 := r5 a j x g' (n + 2 - a.dep - 2) hc.1.1 (hx.gr gr)
    rw [show n + 2 - a.dep - 2 + a.dep + 2 = n + 2 from by have := hc.1.2; omega] at c1
    have c2 := r5 b j y g' (n + 2 - b.dep - 2) hc.2.1 (hy.gr gr)
    rw [show n + 2 - b.dep - 2 + b.dep + 2 = n + 2 from by have := hc.2.2; omega] at c2
    simp -implicitDefEqProofs [any_cw, i1_ hs', i2_ hs', c1, c2, ok_w]
    exact gr
  | .nt c, k, d, g, n, hc, h, hn => by
    have hn : c.dep + 1 + 49 ≤ n := hn
    obtain ⟨n, rfl⟩ : ∃ j, n = j + 3 := ⟨n - 3, by omega⟩
    obtain ⟨j, x, _, hs, hx⟩ := h.two
    rw [run_er (F := f12) rfl e12 rfl, b12_eq]
    simp -implicitDefEqProofs only [PD.R.w, fin_w, startD, n12, List.map, List.length, List.replicate, List.cons_append, List.nil_append, x_cons, x_ifs]
    refine cq12_w n d g "not" [x] ok_not hs fun g' gr => ?_
    have hs' := gr.seq hs
    have a2 := fun u hu (m : Int) => r2a n d g' "not" u _ m ok_not hu hs'
    simp -implicitDefEqProofs [any_not, s12, a2, i1_ hs', ok_w]
    refine w_mono (r12 c j x g' (n + 2) hc (hx.gr gr) (by omega)) fun y g1 ⟨e, gr1⟩ => ?_
    exact ⟨e, gr.trans gr1⟩
  | .an a b, k, d, g, n, hc, h, hn => by
    have hn : max a.dep b.dep + 1 + 49 ≤ n := hn
    obtain ⟨n, rfl⟩ : ∃ j, n = j + 3 := ⟨n - 3, by omega⟩
    obtain ⟨j, x, y, _, hs, hx, hy⟩ := h.three
    rw [run_er (F := f12) rfl e12 rfl, b12_eq]
    simp -implicitDefEqProofs only [PD.R.w, fin_w, startD, n12, List.map, List.length, List.replicate, List.cons_append, List.nil_append, x_cons, x_ifs]
    refine cq12_w n d g "and" [x, y] ok_and hs fun g' gr => ?_
    have hs' := gr.seq hs
    have a2 := fun u hu (m : Int) => r2a n d g' "and" u _ m ok_and hu hs'
    simp -implicitDefEqProofs [any_and, s12, a2, i1_ hs', ok_w]
    refine w_mono (r12 a j x g' (n + 2) hc.1 (hx.gr gr) (by omega)) fun v g1 ⟨e, gr1⟩ => ?_
    subst e
    simp -implicitDefEqProofs [i2_ (gr1.seq hs')]
    refine w_mono (r12 b j y g1 (n + 2) hc.2 ((hy.gr gr).gr gr1) (by omega)) fun v g2 ⟨e, gr2⟩ => ?_
    exact ⟨e, (gr.trans gr1).trans gr2⟩
  | .orr a b, k, d, g, n, hc, h, hn => by
    have hn : max a.dep b.dep + 1 + 49 ≤ n := hn
    obtain ⟨n, rfl⟩ : ∃ j, n = j + 3 := ⟨n - 3, by omega⟩
    obtain ⟨j, x, y, _, hs, hx, hy⟩ := h.three
    rw [run_er (F := f12) rfl e12 rfl, b12_eq]
    simp -implicitDefEqProofs only [PD.R.w, fin_w, startD, n12, List.map, List.length, List.replicate, List.cons_append, List.nil_append, x_cons, x_ifs]
    refine cq12_w n d g "or" [x, y] ok_or hs fun g' gr => ?_
    have hs' := gr.seq hs
    have a2 := fun u hu (m : Int) => r2a n d g' "or" u _ m ok_or hu hs'
    simp -implicitDefEqProofs [any_or, s12, a2, i1_ hs', ok_w]
    refine w_mono (r12 a j x g' (n + 2) hc.1 (hx.gr gr) (by omega)) fun v g1 ⟨e, gr1⟩ => ?_
    subst e
    simp -implicitDefEqProofs [i2_ (gr1.seq hs')]
    refine w_mono (r12 b j y g1 (n + 2) hc.2 ((hy.gr gr).gr gr1) (by omega)) fun v g2 ⟨e, gr2⟩ => ?_
    exact ⟨e, (gr.trans gr1).trans gr2⟩
end K74
set_option linter.all false
set_option maxRecDepth 100000
set_option maxHeartbeats 4000000
/-! k74: the program's alternatives. -/
namespace K74
open PySem PySem.Spec PyProof.Rows L2 PD
abbrev Row := List (Ex × Ex)
def prE (p : Ex × Ex) : D := .tup [p.1.d, p.2.d]
/-- rows of alternatives, each at b or above -/
def Al (b : Nat) (g : G) (k : Nat) (A : List Row) : Prop := b ≤ k ∧ ∃ ks : List Nat, g[k]? = some (.lst (ks.map D.ref)) ∧ A2 (fun (r : Row) j => g[j]? = some (.lst (r.map prE)) ∧ b ≤ j) A ks
theorem Al.gr {b : Nat} {g g' : G} {k : Nat} {A : List Row} (h : Al b g k A) (r : Gr g g') : Al b g' k A := by
  obtain ⟨hb, ks, h1, h2⟩ := h
  exact ⟨hb, ks, r.at h1, h2.mono fun _ _ z => ⟨r.at z.1, z.2⟩⟩
theorem Al.low {b c : Nat} {g : G} {k : Nat} {A : List Row} (h : Al b g k A) (r : c ≤ b) : Al c g k A := by
  obtain ⟨hb, ks, h1, h2⟩ := h
  exact ⟨Nat.le_trans r hb, ks, h1, h2.mono fun _ _ z => ⟨z.1, Nat.le_trans r z.2⟩⟩
theorem Al.sx {b : Nat} {g g' : G} {k : Nat} {A : List Row} (h : Al b g k A) (r : Sx b g g') : Al b g' k A := by
  obtain ⟨hb, ks, h1, h2⟩ := h
  exact ⟨hb, ks, r.at hb h1, h2.mono fun _ _ z => ⟨r.at z.2 z.1, z.2⟩⟩
def AQ (g : G) (A : List Row) (y : D) (g' : G) : Prop := ∃ k, y = .ref k ∧ Al g.length g' k A ∧ Gr g g'
def o1 (x : Ex) : Ex := pl (.ad x (.num 1))
def lots (w : Cw) (x y : Ex) : List Row := match w with
  | .le => [[(x, y)]]
  | .lt => [[(o1 x, y)]]
  | .eq => [[(x, y), (y, x)]]
  | .ne => [[(o1 x, y)], [(o1 y, x)]]
/-- where one more may be taken -/
structure Ok2 (a : Ex) : Prop where
  inp : Inp a
  dep : a.dep ≤ 2
  mag : a.mag < 2 ^ 63
theorem Ok2.o {a : Ex} (h : Ok2 a) : Ok1 (.ad (pl a) (.num 1)) := by
  have a1 := pl_dep a
  have a2 : 2 ^ a.dep ≤ 4 := Nat.pow_le_pow_right (n := 2) (by omega) h.dep
  have a3 : (pl a).mag ≤ a.mag := Nat.le_trans (pf_m (ip a)) (ip_m a h.inp.kb)
  have a4 := (pl_fit h.inp).lv
  have a6 : (pl a).lv ≤ (ip a).lv + 1 := pf_lv (ip a)
  have a7 := ip_lv a
  have a8 := lv2 a
  have k := h.inp.okp
  have hn := k.nd
  have hd := h.dep
  have hm := h.mag
  obtain ⟨o1, o2⟩ := pf_okr a.dep (okr_pc a h.inp 1)
  have o2 : nd (pl a) ≤ (pl a).dep + a.dep := o2
  refine ⟨⟨k.nk, trivial⟩, ⟨k.kb, trivial⟩, ⟨k.okr, trivial⟩, ?_, ?_, ?_⟩
  · rw [one_ip h.inp]
    exact ⟨⟨k.nk, trivial⟩, by show max (pl a).dep 1 + 1 ≤ 50; omega, by show (pl a).mag + max 1 (1 : Int).natAbs < 2 ^ 64; simp; omega, by show (pl a).lv + 1 < 1000000; omega⟩
  · show max (nd (pl a)) 1 + 1 ≤ 50; omega
  · show max (pl a).dep 1 + 1 ≤ 46; omega
theorem r13 {a : Ex} (h : Ok2 a) (n : Nat) (hn : 53 ≤ n) : Gv n 13 (pl a).d (o1 (pl a)).d := by
  intro g
  obtain ⟨n, rfl⟩ : ∃ j, n = j + 1 := ⟨n - 1, by omega⟩
  rw [run_er (F := f13) rfl e13 rfl]
  simp -implicitDefEqProofs [PD.R.w, fin_w, startD, b13, sizeLine_eq]
  exact p10 h.o n (by omega) g
instance : DecidableEq Cw := fun a b => by cases a <;> cases b <;> first | exact isTrue rfl | exact isFalse (fun e => nomatch e)
theorem ceq_le (w : Cw) : (w.w == "le") = decide (w = .le) := by cases w <;> decide +kernel
theorem ceq_lt (w : Cw) : (w.w == "lt") = decide (w = .lt) := by cases w <;> decide +kernel
theorem ceq_eq (w : Cw) : (w.w == "eq") = decide (w = .eq) := by cases w <;> decide +kernel
theorem at_new1 {g : G} {o p : DO} : (g ++ [o, p])[g.length + 1]? = some p := by
  rw [List.getElem?_append_right (by omega), show g.length + 1 - g.length = 1 from by omega]; rfl
theorem al1 {b : Nat} (g : G) (r : Row) (hb : b ≤ g.length) : Al b (g ++ [DO.lst (r.map prE), DO.lst [.ref g.length]]) (g.length + 1) [r] := ⟨by omega, [g.length], at_new1, .cons ⟨at_new, hb⟩ .nil⟩
theorem r14 {a b : Ex} (ha : Ok2 a) (hb : Ok2 b) (w : Cw) (n : Nat) (hn : 54 ≤ n) (g : G) : (runF P.T n 14 [.str w.w, (pl a).d, (pl b).d] g).w (AQ g (lots w (pl a) (pl b))) := by
  obtain ⟨n, rfl⟩ : ∃ j, n = j + 1 := ⟨n - 1, by omega⟩
  rw [run_er (F := f14) rfl e14 rfl]
  cases w with
  | le =>
    simp -implicitDefEqProofs [PD.R.w, fin_w, startD, b14, sizeLine_eq, Cw.w, eqS ok_le ok_le]
    exact ⟨_, rfl, al1 g [(pl a, pl b)] (Nat.le_refl _), Gr.add _ _⟩
  | lt =>
    simp -implicitDefEqProofs [PD.R.w, fin_w, startD, b14, sizeLine_eq, Cw.w, eqS ok_lt ok_le, eqS ok_lt ok_lt]
    refine w_mono (r13 ha n (by omega) g) fun y g1 ⟨e, gr⟩ => ?_
    subst e
    exact ⟨_, rfl, al1 g1 [(o1 (pl a), pl b)] gr.len, gr.trans (Gr.add _ _)⟩
  | eq =>
    simp -implicitDefEqProofs [PD.R.w, fin_w, startD, b14, sizeLine_eq, Cw.w, eqS ok_eq ok_le, eqS ok_eq ok_lt, eqS ok_eq ok_eq]
    exact ⟨_, rfl, al1 g [(pl a, pl b), (pl b, pl a)] (Nat.le_refl _), Gr.add _ _⟩
  | ne =>
    simp -implicitDefEqProofs [PD.R.w, fin_w, startD, b14, sizeLine_eq, Cw.w, eqS ok_ne ok_le, eqS ok_ne ok_lt, eqS ok_ne ok_eq]
    refine w_mono (r13 ha n (by omega) g) fun y g1 ⟨e, gr⟩ => ?_
    subst e
    refine w_mono (r13 hb n (by omega) _) fun y g2 ⟨e, gr2⟩ => ?_
    subst e
    refine ⟨_, rfl, ⟨by have := gr.len; have := gr2.len; simp at *; omega, [g1.length, g2.length], at_new1, .cons ⟨?_, gr.len⟩ (.cons ⟨at_new, ((gr.trans (Gr.add _ _)).trans gr2).len⟩ .nil)⟩, ((gr.trans (Gr.add _ _)).trans gr2).trans (Gr.add _ _)⟩
    exact at_old (gr2.at at_new)
def tu : Co → Co
  | .nt c => c
  | .an a b => .orr (.nt a) (.nt b)
  | .orr a b => .an (.nt a) (.nt b)
  | .cm .lt a b => .cm .le b a
  | .cm .le a b => .cm .lt b a
  | .cm .eq a b => .cm .ne a b
  | .cm .ne a b => .cm .eq a b
theorem r15 (c : Co) (n : Nat) (g : G) : runF P.T (n + 1) 15 [c.d] g = .ok (tu c).d g := by
  apply eq_of_w
  rw [run_er (F := f15) rfl e15 rfl]
  cases c with
  | nt c => simp -implicitDefEqProofs [PD.R.w, fin_w, startD, b15, sizeLine_eq, Co.d, tu, eqS ok_not ok_not]
  | an a b => simp -implicitDefEqProofs [PD.R.w, fin_w, startD, b15, sizeLine_eq, Co.d, tu, eqS ok_and ok_not, eqS ok_and ok_and, in2]
  | orr a b => simp -implicitDefEqProofs [PD.R.w, fin_w, startD, b15, sizeLine_eq, Co.d, tu, eqS ok_or ok_not, eqS ok_or ok_and, in2]
  | cm w a b =>
    cases w with
    | lt => simp -implicitDefEqProofs [PD.R.w, fin_w, startD, b15, sizeLine_eq, Co.d, tu, Cw.w, eqS ok_lt ok_not, eqS ok_lt ok_lt, in2]
    | le => simp -implicitDefEqProofs [PD.R.w, fin_w, startD, b15, sizeLine_eq, Co.d, tu, Cw.w, eqS ok_le ok_not, eqS ok_le ok_lt, in2]
    | eq => simp -implicitDefEqProofs [PD.R.w, fin_w, startD, b15, sizeLine_eq, Co.d, tu, Cw.w, eqS ok_eq ok_not, eqS ok_eq ok_eq, in2]
    | ne => simp -implicitDefEqProofs [PD.R.w, fin_w, startD, b15, sizeLine_eq, Co.d, tu, Cw.w, eqS ok_ne ok_not, eqS ok_ne ok_eq, in2]
def prod (A B : List Row) : List Row := A.flatMap fun r => B.map fun s => r ++ s
def fa : Co → Bool → List Row
  | .nt c, so => fa c (!so)
  | .an a b, true => prod (fa a true) (fa b true)
  | .an a b, false => fa a false ++ fa b false
  | .orr a b, true => fa a true ++ fa b true
  | .orr a b, false => prod (fa a false) (fa b false)
  | .cm w a b, true => lots w (pl a) (pl b)
  | .cm .lt a b, false => lots .le (pl b) (pl a)
  | .cm .le a b, false => lots .lt (pl b) (pl a)
  | .cm .eq a b, false => lots .ne (pl a) (pl b)
  | .cm .ne a b, false => lots .eq (pl a) (pl b)
/-- rows are few and short -/
def few (A : List Row) (m : Nat) : Prop := A ≠ [] ∧ A.length ≤ m ∧ ∀ r ∈ A, r.length ≤ m
def R16 (n : Nat) (c : Co) (A : List Row) : Prop := ∀ g, (runF P.T n 16 [c.d] g).w (AQ g A)
theorem R16_cm {a b : Ex} (ha : Ok2 a) (hb : Ok2 b) (w : Cw) (n : Nat) (hn : 55 ≤ n) : R16 n (.cm w a b) (lots w (pl a) (pl b)) := by
  intro g
  obtain ⟨n, rfl⟩ : ∃ j, n = j + 1 := ⟨n - 1, by omega⟩
  rw [run_er (F := f16) rfl e16 rfl]
  simp -implicitDefEqProofs [PD.R.w, fin_w, startD, b16, sizeLine_eq, Co.d, eqS (ok_cw w) ok_not, eqS (ok_cw w) ok_and, eqS (ok_cw w) ok_or, cw_not, cw_and, cw_or]
  refine w_mono (p10 ha.inp.ok n (by omega) g) fun y g1 ⟨e, gr⟩ => ?_
  subst e
  refine w_mono (p10 hb.inp.ok n (by omega) g1) fun y g2 ⟨e, gr2⟩ => ?_
  subst e
  refine w_mono (r14 ha hb w n (by omega) g2) fun y g3 ⟨k, e, al, gr3⟩ => ?_
  exact ⟨k, e, al.low (gr.trans gr2).len, (gr.trans gr2).trans gr3⟩
theorem R16_nt {c : Co} {A : List Row} (n : Nat) (h : R16 (n + 1) (tu c) A) : R16 (n + 2) (.nt c) A := by
  intro g
  rw [show n + 2 = (n + 1) + 1 from rfl, run_er (F := f16) rfl e16 rfl]
  simp -implicitDefEqProofs [PD.R.w, fin_w, startD, b16, sizeLine_eq, Co.d, eqS ok_not ok_not, r15, ok_w]
  exact h g
theorem R16_or {a b : Co} {A B : List Row} (n : Nat) (h1 : R16 n a A) (h2 : R16 n b B) (hl : A.length + B.length ≤ 1000000) : R16 (n + 1) (.orr a b) (A ++ B) := by
  intro g
  rw [run_er (F := f16) rfl e16 rfl]
  simp -implicitDefEqProofs [PD.R.w, fin_w, startD, b16, sizeLine_eq, Co.d, eqS ok_or ok_not, eqS ok_or ok_or]
  refine w_mono (h1 g) fun y g1 ⟨k, e, al, gr⟩ => ?_
  subst e
  refine w_mono (h2 g1) fun y g2 ⟨j, e, al2, gr2⟩ => ?_
  subst e
  obtain ⟨_, ks, h3, h4⟩ := al.gr gr2
  obtain ⟨_, js, h5, h6⟩ := al2.low gr.len
  have l1 := h4.len
  have l2 := h6.len
  rw [addLL h3 h5 (by simp; omega)]
  refine ⟨_, rfl, ⟨(gr.trans gr2).len, ks ++ js, ?_, (h4.app h6).mono fun _ _ z => ⟨at_old z.1, z.2⟩⟩, (gr.trans gr2).trans (Gr.add _ _)⟩
  rw [List.map_append]; exact at_new
theorem A2_ref2 {β : Type} {g : G} {V : Nat → Prop} (F : β → Row) : ∀ {xs : List β} {out : List D}, A2 (fun x r => ∃ m, r = D.ref m ∧ V m ∧ g[m]? = some (.lst ((F x).map prE))) xs out → ∃ ms : List Nat, out = ms.map D.ref ∧ A2 (fun (r : Row) j => g[j]? = some (.lst (r.map prE)) ∧ V j) (xs.map F) ms
  | _, _, .nil => ⟨[], rfl, .nil⟩
  | _, _, .cons ⟨m, h1, h0, h2⟩ r => by
    obtain ⟨ms, e, h3⟩ := A2_ref2 F r
    exact ⟨m :: ms, by rw [h1, e]; rfl, .cons ⟨h2, h0⟩ h3⟩
theorem zip_snd {A : List Row} {ks : List Nat} (h : A.length = ks.length) : ((A.zip ks).map fun p => D.ref p.2) = ks.map D.ref := by
  have h1 := List.map_snd_zip (l₁ := A) (l₂ := ks) (by omega)
  have h2 : ((A.zip ks).map fun p => D.ref p.2) = ((A.zip ks).map Prod.snd).map D.ref := by rw [List.map_map]; rfl
  rw [h2, h1]
theorem zip_prod {A B : List Row} {ks js : List Nat} (h : A.length = ks.length) (h2 : B.length = js.length) : ((A.zip ks).flatMap fun x => (B.zip js).map fun y => (x, y)).map (fun p => p.1.1 ++ p.2.1) = prod A B := by
  have a1 := List.map_fst_zip (l₁ := A) (l₂ := ks) (by omega)
  have a2 := List.map_fst_zip (l₁ := B) (l₂ := js) (by omega)
  rw [List.map_flatMap]
  have e1 : (fun x : Row × Nat => ((B.zip js).map fun y => (x, y)).map fun p => p.1.1 ++ p.2.1) = fun x => B.map fun s => x.1 ++ s := by
    funext x
    rw [List.map_map]
    conv => rhs; rw [← a2]
    rw [List.map_map]; rfl
  rw [e1]
  unfold prod
  conv => rhs; rw [← a1]
  rw [List.flatMap_map]
theorem R16_an {a b : Co} {A B : List Row} (n : Nat) (h1 : R16 n a A) (h2 : R16 n b B) (hA : few A 1000) (hB : few B 999) : R16 (n + 1) (.an a b) (prod A B) := by
  intro g
  rw [run_er (F := f16) rfl e16 rfl]
  simp -implicitDefEqProofs [PD.R.w, fin_w, startD, b16, sizeLine_eq, Co.d, eqS ok_and ok_not, eqS ok_and ok_or, eqS ok_and ok_and]
  refine x_unp ?_
  simp -implicitDefEqProofs [sizeLine_eq]
  refine w_mono (h1 g) fun y g1 ⟨k, e, al, gr⟩ => ?_
  subst e
  refine w_mono (h2 g1) fun y g2 ⟨j, e, al2, gr2⟩ => ?_
  subst e
  refine ⟨[some (.tup [.str "and", a.d, b.d]), some (.str "and"), some (.ref k), some (.ref j), none, none], rfl, ?_⟩
  obtain ⟨_, ks, h3, h4⟩ := al.gr gr2
  obtain ⟨_, js, h5, h6⟩ := al2.low gr.len
  have l1 := h4.len
  have l2 := h6.len
  have b1 := hA.2.1
  have b2 := hB.2.1
  refine lc2_rel (A.zip ks) (B.zip js) (fun p => D.ref p.2) (fun p => D.ref p.2) (fun x y r g => ∃ m, r = D.ref m ∧ g2.length < m ∧ g[m]? = some (.lst ((x.1 ++ y.1).map prE))) (fun x y r g g' ⟨m, h1, h2, h3⟩ kp => ⟨m, h1, h2, kp.at (by omega) h3⟩) (by simp; omega) (by simp; omega) ?_ (evI_seq (x := .ref k) rfl (seq_ref h3)) (fun i gi gr' => ?_) (fun x gi hx gr' => ?_) fun out g' gr' ho h7 => ?_
  · have := Nat.mul_le_mul b1 b2
    simp only [List.length_zip]
    have : min A.length ks.length * min B.length js.length ≤ 1000 * 999 := Nat.mul_le_mul (by omega) (by omega)
    omega
  · show (seqD (.ref k) gi).map _ = _
    rw [seq_ref (gr'.at h3)]
    have : ((A.zip ks).map fun p => D.ref p.2) = ks.map D.ref := zip_snd l1
    rw [this]; rfl
  · refine ⟨[some (.tup [.str "and", a.d, b.d]), some (.str "and"), some (.ref k), some (.ref j), some (.ref x.2), none], rfl, wkSeq (.ref j), evI_seq (x := .ref j) rfl (seq_ref (gr'.at h5)), fun i gj gr2' => ?_, fun y gj hy gr2' hgl => ?_⟩
    · show (seqD (.ref j) gj).map _ = _
      rw [seq_ref (gr2'.at h5)]
      have : ((B.zip js).map fun p => D.ref p.2) = js.map D.ref := zip_snd l2
      rw [this]; rfl
    · refine ⟨[some (.tup [.str "and", a.d, b.d]), some (.str "and"), some (.ref k), some (.ref j), some (.ref x.2), some (.ref y.2)], rfl, ?_⟩
      have zx : gj[x.2]? = some (.lst (x.1.map prE)) := by
        obtain ⟨i, hi, e⟩ := List.mem_iff_getElem.mp hx
        rw [List.length_zip] at hi
        rw [List.getElem_zip] at e
        have := h4.get (i := i) (x := x.1) (y := x.2) (by rw [← e]; exact List.getElem?_eq_getElem (by omega)) (by rw [← e]; exact List.getElem?_eq_getElem (by omega))
        exact gr2'.at this.1
      have zy : gj[y.2]? = some (.lst (y.1.map prE)) := by
        obtain ⟨i, hi, e⟩ := List.mem_iff_getElem.mp hy
        rw [List.length_zip] at hi
        rw [List.getElem_zip] at e
        have := h6.get (i := i) (x := y.1) (y := y.2) (by rw [← e]; exact List.getElem?_eq_getElem (by omega)) (by rw [← e]; exact List.getElem?_eq_getElem (by omega))
        exact gr2'.at this.1
      have lx := hA.2.2 x.1 (List.of_mem_zip hx).1
      have ly := hB.2.2 y.1 (List.of_mem_zip hy).1
      simp -implicitDefEqProofs [PD.R.w, addLL zx zy (by simp; omega)]
      exact ⟨hgl, Gr.add _ _⟩
  · obtain ⟨ms, e, h8⟩ := A2_ref2 (V := fun m => g2.length < m) (fun p : (Row × Nat) × (Row × Nat) => p.1.1 ++ p.2.1) h7
    rw [zip_prod l1 l2] at h8
    exact ⟨_, rfl, ⟨(gr.trans gr2).len, ms, by rw [← e]; exact ho, h8.mono fun _ _ z => ⟨z.1, by have := (gr.trans gr2).len; have := z.2; omega⟩⟩, (gr.trans gr2).trans gr'⟩
end K74
set_option linter.all false
set_option maxRecDepth 100000
set_option maxHeartbeats 4000000
/-! k74: the program's alternatives, joined. -/
namespace K74
open PySem PySem.Spec PyProof.Rows L2 PD
def mm : Nat → Nat
  | 0 => 2
  | d + 1 => mm d * mm d
theorem mm2 : ∀ d, 2 ≤ mm d
  | 0 => Nat.le_refl _
  | d + 1 => by have := mm2 d; show 2 ≤ mm d * mm d; exact Nat.le_trans this (Nat.le_mul_of_pos_left _ (by omega))
theorem mm_up (d : Nat) : mm d ≤ mm (d + 1) := Nat.le_mul_of_pos_left _ (by have := mm2 d; omega)
theorem mm_le {d e : Nat} (h : d ≤ e) : mm d ≤ mm e := by
  induction h with
  | refl => exact Nat.le_refl _
  | step _ ih => exact Nat.le_trans ih (mm_up _)
theorem few.up {A : List Row} {m k : Nat} (h : few A m) (hk : m ≤ k) : few A k := ⟨h.1, Nat.le_trans h.2.1 hk, fun r hr => Nat.le_trans (h.2.2 r hr) hk⟩
theorem few_app {A B : List Row} {m : Nat} (hm : 2 ≤ m) (a : few A m) (b : few B m) : few (A ++ B) (m * m) := by
  have h2 : m + m ≤ m * m := by have := Nat.mul_le_mul_right m hm; omega
  refine ⟨fun z => a.1 (List.append_eq_nil_iff.mp z).1, ?_, fun r hr => ?_⟩
  · have := a.2.1; have := b.2.1
    rw [List.length_append]; omega
  · rcases List.mem_append.mp hr with z | z
    · have := a.2.2 r z; omega
    · have := b.2.2 r z; omega
theorem prod_len (B : List Row) : ∀ A : List Row, (prod A B).length = A.length * B.length
  | [] => by simp [prod]
  | r :: A => by
    have := prod_len B A
    unfold prod at this ⊢
    rw [List.flatMap_cons, List.length_append, this, List.length_map, List.length_cons, Nat.succ_mul]; omega
theorem few_prod {A B : List Row} {m : Nat} (hm : 2 ≤ m) (a : few A m) (b : few B m) : few (prod A B) (m * m) := by
  have h2 : m + m ≤ m * m := by have := Nat.mul_le_mul_right m hm; omega
  have pl := prod_len B A
  have l1 := List.length_pos_iff.mpr a.1
  have l2 := List.length_pos_iff.mpr b.1
  refine ⟨fun z => ?_, ?_, fun r hr => ?_⟩
  · rw [z] at pl
    have := Nat.mul_pos l1 l2
    simp at pl; omega
  · rw [pl]; exact Nat.mul_le_mul a.2.1 b.2.1
  · obtain ⟨x, hx, hr⟩ := List.mem_flatMap.mp hr
    obtain ⟨y, hy, e⟩ := List.mem_map.mp hr
    have := a.2.2 x hx
    have := b.2.2 y hy
    rw [← e, List.length_append]; omega
theorem few_lots (w : Cw) (x y : Ex) : few (lots w x y) 2 := by
  cases w <;> refine ⟨by simp [lots], by simp [lots], fun r hr => ?_⟩ <;> simp [lots] at hr
  · subst hr; simp
  · subst hr; simp
  · subst hr; simp
  · rcases hr with rfl | rfl <;> simp
theorem few_fa : ∀ (c : Co) (so : Bool), few (fa c so) (mm c.dep)
  | .nt c, so => by
    have := few_fa c (!so)
    exact this.up (mm_up _)
  | .an a b, true => few_prod (mm2 _) ((few_fa a true).up (mm_le (Nat.le_max_left _ _))) ((few_fa b true).up (mm_le (Nat.le_max_right _ _)))
  | .an a b, false => few_app (mm2 _) ((few_fa a false).up (mm_le (Nat.le_max_left _ _))) ((few_fa b false).up (mm_le (Nat.le_max_right _ _)))
  | .orr a b, true => few_app (mm2 _) ((few_fa a true).up (mm_le (Nat.le_max_left _ _))) ((few_fa b true).up (mm_le (Nat.le_max_right _ _)))
  | .orr a b, false => few_prod (mm2 _) ((few_fa a false).up (mm_le (Nat.le_max_left _ _))) ((few_fa b false).up (mm_le (Nat.le_max_right _ _)))
  | .cm w a b, true => (few_lots _ _ _).up (mm2 _)
  | .cm .lt a b, false => (few_lots .le (pl b) (pl a)).up (mm2 _)
  | .cm .le a b, false => (few_lots .lt (pl b) (pl a)).up (mm2 _)
  | .cm .eq a b, false => (few_lots .ne (pl a) (pl b)).up (mm2 _)
  | .cm .ne a b, false => (few_lots .eq (pl a) (pl b)).up (mm2 _)
theorem few_3 (c : Co) (so : Bool) (h : c.dep ≤ 3) : few (fa c so) 256 := (few_fa c so).up (Nat.le_trans (mm_le h) (by decide))
theorem r16 : ∀ (c : Co), c.all Ok2 → c.dep ≤ 3 → (∀ n, 2 * c.dep + 53 ≤ n → R16 n c (fa c true)) ∧ (∀ n, 2 * c.dep + 55 ≤ n → R16 n (.nt c) (fa c false))
  | .cm w a b, h, hd => by
    refine ⟨fun n hn => R16_cm h.1 h.2 w n (by have : 2 * 1 + 53 ≤ n := hn; omega), fun n hn => ?_⟩
    have hn : 2 * 1 + 55 ≤ n := hn
    obtain ⟨n, rfl⟩ : ∃ j, n = j + 2 := ⟨n - 2, by omega⟩
    refine R16_nt n ?_
    cases w with
    | lt => exact R16_cm h.2 h.1 .le (n + 1) (by omega)
    | le => exact R16_cm h.2 h.1 .lt (n + 1) (by omega)
    | eq => exact R16_cm h.1 h.2 .ne (n + 1) (by omega)
    | ne => exact R16_cm h.1 h.2 .eq (n + 1) (by omega)
  | .nt c, h, hd => by
    have hd : c.dep + 1 ≤ 3 := hd
    obtain ⟨i1, i2⟩ := r16 c h (by omega)
    refine ⟨fun n hn => i2 n (by have : 2 * (c.dep + 1) + 53 ≤ n := hn; omega), fun n hn => ?_⟩
    have hn : 2 * (c.dep + 1) + 55 ≤ n := hn
    obtain ⟨n, rfl⟩ : ∃ j, n = j + 2 := ⟨n - 2, by omega⟩
    exact R16_nt n (i1 (n + 1) (by omega))
  | .an a b, h, hd => by
    have hd : max a.dep b.dep + 1 ≤ 3 := hd
    obtain ⟨i1, i2⟩ := r16 a h.1 (by omega)
    obtain ⟨j1, j2⟩ := r16 b h.2 (by omega)
    refine ⟨fun n hn => ?_, fun n hn => ?_⟩
    · have hn : 2 * (max a.dep b.dep + 1) + 53 ≤ n := hn
      obtain ⟨n, rfl⟩ : ∃ j, n = j + 1 := ⟨n - 1, by omega⟩
      exact R16_an n (i1 n (by omega)) (j1 n (by omega)) ((few_3 a true (by omega)).up (by omega)) ((few_3 b true (by omega)).up (by omega))
    · have hn : 2 * (max a.dep b.dep + 1) + 55 ≤ n := hn
      obtain ⟨n, rfl⟩ : ∃ j, n = j + 2 := ⟨n - 2, by omega⟩
      have f1 := (few_3 a false (by omega)).2.1
      have f2 := (few_3 b false (by omega)).2.1
      exact R16_nt n (R16_or n (i2 n (by omega)) (j2 n (by omega)) (by omega))
  | .orr a b, h, hd => by
    have hd : max a.dep b.dep + 1 ≤ 3 := hd
    obtain ⟨i1, i2⟩ := r16 a h.1 (by omega)
    obtain ⟨j1, j2⟩ := r16 b h.2 (by omega)
    refine ⟨fun n hn => ?_, fun n hn => ?_⟩
    · have hn : 2 * (max a.dep b.dep + 1) + 53 ≤ n := hn
      obtain ⟨n, rfl⟩ : ∃ j, n = j + 1 := ⟨n - 1, by omega⟩
      have f1 := (few_3 a true (by omega)).2.1
      have f2 := (few_3 b true (by omega)).2.1
      exact R16_or n (i1 n (by omega)) (j1 n (by omega)) (by omega)
    · have hn : 2 * (max a.dep b.dep + 1) + 55 ≤ n := hn
      obtain ⟨n, rfl⟩ : ∃ j, n = j + 2 := ⟨n - 2, by omega⟩
      exact R16_nt n (R16_an n (i2 n (by omega)) (j2 n (by omega)) ((few_3 a false (by omega)).up (by omega)) ((few_3 b false (by omega)).up (by omega)))
theorem AQ.tr {g g1 : G} {A : List Row} {y : D} {g' : G} (h : AQ g1 A y g') (r : Gr g g1) : AQ g A y g' := by
  obtain ⟨k, h1, h2, h3⟩ := h
  exact ⟨k, h1, h2.low r.len, r.trans h3⟩
theorem co_all {V W : Ex → Prop} (h : ∀ t, V t → W t) : ∀ c : Co, c.all V → c.all W
  | .cm _ a b, z => ⟨h a z.1, h b z.2⟩
  | .nt c, z => co_all h c z
  | .an a b, z => ⟨co_all h a z.1, co_all h b z.2⟩
  | .orr a b, z => ⟨co_all h a z.1, co_all h b z.2⟩
theorem co_tup (c : Co) : ∃ es, c.d = .tup es := by cases c <;> exact ⟨_, rfl⟩
@[simp] theorem n4' : f4.N.length = 1 := rfl
/-- alternatives -/
theorem r17 (c : Co) (k : Nat) (d : D) (g : G) (n : Nat) (hc : c.all Ok2) (hd : c.dep ≤ 3) (h : Lz g k d c.d) (hk : k ≤ 50) (hn : 60 ≤ n) : (runF P.T n 17 [d] g).w (AQ g (fa c true)) := by
  obtain ⟨n, rfl⟩ : ∃ j, n = j + 1 := ⟨n - 1, by omega⟩
  rw [run_er (F := f17) rfl e17 rfl]
  have hd1 : c.all (fun t => t.dvs ∧ t.dep ≤ 46) := co_all (fun t z => ⟨kb_dvs t z.inp.kb, by have := z.dep; omega⟩) c hc
  simp -implicitDefEqProofs [PD.R.w, fin_w, startD, b17]
  refine w_mono (r12 c k d g n hd1 h (by omega)) fun y g1 ⟨e, gr1⟩ => ?_
  subst e
  simp -implicitDefEqProofs
  obtain ⟨es, he⟩ := co_tup c
  have c3 := r3 k d es g1 (n - k - 2) (he ▸ h.gr gr1)
  rw [show n - k - 2 + k + 1 = n - 1 from by omega] at c3
  have c4 : (runF P.T n 4 [d] g1).w fun y g' => y = c.d ∧ Gr g1 g' := by
    obtain ⟨n, rfl⟩ : ∃ j, n = j + 1 := ⟨n - 1, by omega⟩
    rw [run_er (F := f4) rfl e4 rfl]
    simp -implicitDefEqProofs [PD.R.w, fin_w, startD, b4]
    rw [he]
    exact c3
  refine w_mono c4 fun y g2 ⟨e, gr2⟩ => ?_
  subst e
  exact w_mono ((r16 c hc hd).1 n (by omega) g2) fun y g3 z => z.tr (gr1.trans gr2)
end K74
set_option linter.all false
set_option maxRecDepth 100000
set_option maxHeartbeats 4000000
/-! k74: the law's facts. -/
namespace K74
open PySem PySem.Spec PyProof.Rows L2 PD
def s29 : Ss := (.cons
  (.asg 8 PD.e0 p0 (.lc (.call 28 PD.e0 p0 (.cons (.tup (.cons (.txt "add" 0 p0) (.cons (.var 9 PD.e0 p0) (.cons (.tup (.cons (.txt "number" 0 p0) (.cons (.num 1 0 p0) .nil)) 0 p0) .nil))) 0 p0) .nil) p0) (.name 9 PD.e0 p0) (.seq (.tup (.cons (.var 3 PD.e0 p0) (.cons (.var 4 PD.e0 p0) .nil)) 0 p0)) .nil s0 [(PD.e0, 9)] p0) p0)
  (.cons
  (.ifs (.cmp .In (.var 2 PD.e0 p0) (.tup (.cons (.txt "lt" 0 p0) (.cons (.txt "le" 0 p0) .nil)) 0 p0) p0) (.cons
    (.ret (.lst (.cons (.lst (.cons (.tup (.cons (.ife (.cmp .Eq (.var 2 PD.e0 p0) (.txt "lt" 0 p0) p0) (.idx (.var 8 PD.e0 p0) (.num 0 0 p0) p0) (.var 3 PD.e0 p0) p0) (.cons (.var 4 PD.e0 p0) .nil)) 0 p0) .nil) p0) .nil) p0) p0)
    .nil) .nil p0)
  (.cons
  (.ret (.ife (.cmp .Eq (.var 2 PD.e0 p0) (.txt "eq" 0 p0) p0) (.lst (.cons (.lst (.cons (.tup (.cons (.var 3 PD.e0 p0) (.cons (.var 4 PD.e0 p0) .nil)) 0 p0) (.cons (.tup (.cons (.var 4 PD.e0 p0) (.cons (.var 3 PD.e0 p0) .nil)) 0 p0) .nil)) p0) .nil) p0) (.lst (.cons (.lst (.cons (.tup (.cons (.idx (.var 8 PD.e0 p0) (.num 0 0 p0) p0) (.cons (.var 4 PD.e0 p0) .nil)) 0 p0) .nil) p0) (.cons (.lst (.cons (.tup (.cons (.idx (.var 8 PD.e0 p0) (.num 1 0 p0) p0) (.cons (.var 3 PD.e0 p0) .nil)) 0 p0) .nil) p0) .nil)) p0) p0) p0)
  .nil)))
def s29m : Ss := (.cons
    (.asg 5 PD.e0 p0 (.lst .nil p0) p0)
    (.cons
    (.forr (.name 6 PD.e0 p0) (.seq (.var 3 PD.e0 p0)) (.cons
      (.exp (.mth .extend (.var 5 PD.e0 p0) p0 (.cons (.lc (.bin .Add (.var 6 PD.e0 p0) (.var 7 PD.e0 p0) p0) (.name 7 PD.e0 p0) (.seq (.var 4 PD.e0 p0)) .nil s0 [(PD.e0, 7)] p0) .nil) p0) p0)
      .nil) p0)
    (.cons
    (.ret (.var 5 PD.e0 p0) p0)
    .nil)))
theorem b29_eq : b29 = (.cons
  (.asg 2 PD.e0 p0 (.idx (.var 0 PD.e0 p0) (.num 0 0 p0) p0) p0)
  (.cons
  (.ifs (.cmp .Eq (.var 2 PD.e0 p0) (.txt "not" 0 p0) p0) (.cons
    (.ret (.call 29 PD.e0 p0 (.cons (.idx (.var 0 PD.e0 p0) (.num 1 0 p0) p0) (.cons (.nt (.var 1 PD.e0 p0) p0) .nil)) p0) p0)
    .nil) .nil p0)
  (.cons
  (.ifs (.cmp .In (.var 2 PD.e0 p0) (.tup (.cons (.txt "and" 0 p0) (.cons (.txt "or" 0 p0) .nil)) 0 p0) p0) (.cons
    (.par2 3 4 PD.e0 PD.e0 p0 p0 p0 0 (.call 29 PD.e0 p0 (.cons (.idx (.var 0 PD.e0 p0) (.num 1 0 p0) p0) (.cons (.var 1 PD.e0 p0) .nil)) p0) (.call 29 PD.e0 p0 (.cons (.idx (.var 0 PD.e0 p0) (.num 2 0 p0) p0) (.cons (.var 1 PD.e0 p0) .nil)) p0) 0 p0 p0)
    (.cons
    (.ifs (.cmp .Eq (.cmp .Eq (.var 2 PD.e0 p0) (.txt "or" 0 p0) p0) (.var 1 PD.e0 p0) p0) (.cons
      (.ret (.bin .Add (.var 3 PD.e0 p0) (.var 4 PD.e0 p0) p0) p0)
      .nil) .nil p0)
    s29m)) .nil p0)
  (.cons
  (.par2 3 4 PD.e0 PD.e0 p0 p0 p0 0 (.call 28 PD.e0 p0 (.cons (.idx (.var 0 PD.e0 p0) (.num 1 0 p0) p0) .nil) p0) (.call 28 PD.e0 p0 (.cons (.idx (.var 0 PD.e0 p0) (.num 2 0 p0) p0) .nil) p0) 0 p0 p0)
  (.cons
  (.ifs (.nt (.var 1 PD.e0 p0) p0) (.cons
    (.asg 2 PD.e0 p0 (.idx (.dct (.cons (.txt "lt" 0 p0) (.cons (.txt "le" 0 p0) (.cons (.txt "le" 0 p0) (.cons (.txt "lt" 0 p0) (.cons (.txt "eq" 0 p0) (.cons (.txt "ne" 0 p0) (.cons (.txt "ne" 0 p0) (.cons (.txt "eq" 0 p0) .nil)))))))) p0) (.var 2 PD.e0 p0) p0) p0)
    (.cons
    (.unp (.tup [(.name 3 PD.e0 p0), (.name 4 PD.e0 p0)] 0 p0) (.ife (.cmp .In (.var 2 PD.e0 p0) (.tup (.cons (.txt "lt" 0 p0) (.cons (.txt "le" 0 p0) .nil)) 0 p0) p0) (.tup (.cons (.var 4 PD.e0 p0) (.cons (.var 3 PD.e0 p0) .nil)) 0 p0) (.tup (.cons (.var 3 PD.e0 p0) (.cons (.var 4 PD.e0 p0) .nil)) 0 p0) p0) p0)
    .nil)) .nil p0)
  s29))))) := rfl
theorem s29_w (n : Nat) {a b : Ex} (ha : Ok2 a) (hb : Ok2 b) (w : Cw) (hn : 25 ≤ n) (g0 g : G) (gr0 : Gr g0 g) {x0 x1 x5 x6 x7 x8 x9 : Option D} {Qn : Sl → G → Prop} {Es : Str → Fs → Sl → G → Prop} :
    (exes (runF P.T n) s29 [x0, x1, some (.str w.w), some (pl a).d, some (pl b).d, x5, x6, x7, x8, x9] g).sat Qn (AQ g0 (lots w (pl a) (pl b))) Es := by
  unfold s29
  rw [x_cons, x_asg]
  refine lc_rel [a, b] (fun t => (pl t).d) (fun t y _ => y = (o1 (pl t)).d) (fun _ _ _ _ h _ => h) (by simp) (evI_seq (x := .tup [(pl a).d, (pl b).d]) (ds := [(pl a).d, (pl b).d]) (g1 := g) ?_ rfl) (fun i gi gr => rfl) (fun t gi ht gr => ?_) fun out g' gr ho h2 => ?_
  · apply eq_of_w
    simp -implicitDefEqProofs [PD.R.w, sizeLine_eq]
  · have ht2 : Ok2 t := by
      simp at ht
      rcases ht with rfl | rfl
      · exact ha
      · exact hb
    refine ⟨[x0, x1, some (.str w.w), some (pl a).d, some (pl b).d, x5, x6, x7, x8, some (pl t).d], rfl, ?_⟩
    have c := p28o ht2.inp ht2.dep ht2.mag n hn gi
    simp -implicitDefEqProofs [PD.R.w, sizeLine_eq]
    exact c
  · have h3 : out = [(o1 (pl a)).d, (o1 (pl b)).d] := A2.map_eq (f := fun t => (o1 (pl t)).d) h2
    subst h3
    have hs := seq_ref ho
    have gg := gr0.trans gr
    cases w with
    | le =>
      simp -implicitDefEqProofs [sizeLine_eq, Cw.w, in2, eqS ok_le ok_lt]
      exact ⟨_, rfl, al1 g' [(pl a, pl b)] gg.len, gg.trans (Gr.add _ _)⟩
    | lt =>
      simp -implicitDefEqProofs [sizeLine_eq, Cw.w, in2, eqS ok_lt ok_lt, i0_ hs]
      exact ⟨_, rfl, al1 g' [(o1 (pl a), pl b)] gg.len, gg.trans (Gr.add _ _)⟩
    | eq =>
      simp -implicitDefEqProofs [sizeLine_eq, Cw.w, in2, eqS ok_eq ok_eq]
      exact ⟨_, rfl, al1 g' [(pl a, pl b), (pl b, pl a)] gg.len, gg.trans (Gr.add _ _)⟩
    | ne =>
      have hs2 := seq_ref (at_old (t := [DO.lst [.tup [(o1 (pl a)).d, (pl b).d]]]) ho)
      simp -implicitDefEqProofs [sizeLine_eq, Cw.w, in2, eqS ok_ne ok_eq, i0_ hs, i1_ hs2]
      refine ⟨_, rfl, ⟨by have := gg.len; omega, [g'.length, g'.length + 1], ?_, .cons ⟨at_new, gg.len⟩ (.cons ⟨?_, by have := gg.len; omega⟩ .nil)⟩, gg.trans (Gr.add _ _)⟩
      · rw [List.getElem?_append_right (by omega), show g'.length + 2 - g'.length = 2 from by omega]; rfl
      · rw [List.getElem?_append_right (by omega), show g'.length + 1 - g'.length = 1 from by omega]; rfl
theorem s29m_w {cl : Nat → List D → G → PD.R D} {A B : List Row} (k j : Nat) (g0 g : G) (gr0 : Gr g0 g) {b c : Nat} (hA : Al b g k A) (hB : Al c g j B) (fA : few A 256) (fB : few B 256) {x0 x1 x2 x5 x6 x7 x8 x9 : Option D} {Qn : Sl → G → Prop} {Es : Str → Fs → Sl → G → Prop} :
    (exes cl s29m [x0, x1, x2, some (.ref k), some (.ref j), x5, x6, x7, x8, x9] g).sat Qn (AQ g0 (prod A B)) Es := by
  obtain ⟨_, ks, h3, h4⟩ := hA
  obtain ⟨_, js, h5, h6⟩ := hB
  have l1 := h4.len
  have l2 := h6.len
  have b1 := fA.2.1
  have b2 := fB.2.1
  unfold s29m
  rw [x_cons, x_asg]
  simp -implicitDefEqProofs only [w_lst, wa_nil, List.length_nil, Nat.zero_le, if_true]
  rw [x_cons, x_forE (x := .ref k) rfl (seq_ref (at_old h3))]
  refine for_l (A.zip ks) (fun p => D.ref p.2) (fun i δ gi => Gr g gi ∧ (∃ ms : List Nat, gi[g.length]? = some (.lst (ms.map D.ref)) ∧ A2 (fun (r : Row) m => gi[m]? = some (.lst (r.map prE)) ∧ g.length < m) (prod (A.take i) B) ms) ∧ ∃ y6, δ = [x0, x1, x2, some (.ref k), some (.ref j), some (.ref g.length), y6, x7, x8, x9]) (by simp; omega) (fun i δ gi ⟨gri, _⟩ => ?_) (fun i hi δ gi ⟨gri, ⟨ms, hm, h7⟩, y6, hδ⟩ => ?_) (fun δ gi ⟨gri, ⟨ms, hm, h7⟩, y6, hδ⟩ => ?_) _ _ ⟨Gr.add _ _, ⟨[], at_new, .nil⟩, x6, rfl⟩
  · rw [seq_ref (gri.at h3), zip_snd l1]
  · subst hδ
    rw [List.length_zip] at hi
    have hiA : i < A.length := by omega
    have hik : i < ks.length := by omega
    refine ⟨[x0, x1, x2, some (.ref k), some (.ref j), some (.ref g.length), some (.ref (A.zip ks)[i].2), x7, x8, x9], rfl, ?_⟩
    have hrow := gri.at (h4.get (i := i) (List.getElem?_eq_getElem hiA) (List.getElem?_eq_getElem hik)).1
    have lrow := fA.2.2 A[i] (List.getElem_mem hiA)
    have hgl := (List.getElem?_eq_some_iff.mp hm).1
    rw [x_cons, x_exp, w_mth, w_var]
    show (if isLst (.ref g.length) gi = true then _ else _)
    rw [if_pos (isl_ref hm), wa_cons]
    refine lc_relL (B.zip js) (fun p => D.ref p.2) (fun p r g => ∃ m, r = D.ref m ∧ gi.length < m ∧ g[m]? = some (.lst ((A[i] ++ p.1).map prE))) (fun x r g g' ⟨m, h1, h2, h3⟩ kp => ⟨m, h1, h2, kp.at (by omega) h3⟩) (by simp; omega) (evI_seq (x := .ref j) rfl (seq_ref (gri.at h5))) (fun i' gj grj => ?_) (fun y gj hy grj hlj => ?_) fun out g' gr' ho h8 => ?_
    · show (seqD (.ref j) gj).map _ = _
      rw [seq_ref (grj.at (gri.at h5)), zip_snd l2]; rfl
    · refine ⟨[x0, x1, x2, some (.ref k), some (.ref j), some (.ref g.length), some (.ref (A.zip ks)[i].2), some (.ref y.2), x8, x9], rfl, ?_⟩
      have zy : gj[y.2]? = some (.lst (y.1.map prE)) := by
        obtain ⟨i, hi, e⟩ := List.mem_iff_getElem.mp hy
        rw [List.length_zip] at hi
        rw [List.getElem_zip] at e
        have := h6.get (i := i) (x := y.1) (y := y.2) (by rw [← e]; exact List.getElem?_eq_getElem (by omega)) (by rw [← e]; exact List.getElem?_eq_getElem (by omega))
        exact grj.at (gri.at this.1)
      have ly := fB.2.2 y.1 (List.of_mem_zip hy).1
      have zx : gj[(A.zip ks)[i].2]? = some (.lst (A[i].map prE)) := by rw [List.getElem_zip]; exact grj.at hrow
      simp -implicitDefEqProofs only [PD.R.w, w_bin, w_var, List.getElem?_cons_zero, List.getElem?_cons_succ, Option.join_some, some_w, addLL zx zy (show (A[i].map prE).length + (y.1.map prE).length ≤ 1000000 by simp; omega)]
      exact ⟨⟨_, rfl, hlj, by rw [← List.map_append]; exact at_new⟩, Gr.add _ _⟩
    · obtain ⟨ns, e, h9⟩ := A2_ref2 (V := fun m => gi.length < m) (fun p : Row × Nat => A[i] ++ p.1) h8
      subst e
      have e1 : ((B.zip js).map fun p => A[i] ++ p.1) = B.map fun s => A[i] ++ s := by
        have a2 := List.map_fst_zip (l₁ := B) (l₂ := js) (by omega)
        conv => rhs; rw [← a2]
        rw [List.map_map]; rfl
      rw [e1] at h9
      have hm' := gr'.at hm
      have ll := h7.len
      have ln := h9.len
      rw [prod_len, List.length_take] at ll
      rw [List.length_map] at ln
      have hbig : (ms.map D.ref).length + (ns.map D.ref).length ≤ 1000000 := by
        simp only [List.length_map]
        have : min i A.length * B.length ≤ 256 * 256 := Nat.mul_le_mul (by omega) b2
        omega
      simp -implicitDefEqProofs only [wa_nil, x_nil]
      rw [extLL hm' ho hbig]
      have hl' := (List.getElem?_eq_some_iff.mp hm').1
      refine ⟨(gri.trans gr').set (Nat.le_refl _) _, ⟨ms ++ ns, ?_, ?_⟩, _, rfl⟩
      · rw [Gr.set_at hl', List.map_append]
      · have et : prod (A.take (i + 1)) B = prod (A.take i) B ++ B.map fun s => A[i] ++ s := by
          unfold prod; rw [take_flat _ A i hiA]
        rw [et]
        refine (h7.mono fun r m z => ⟨?_, z.2⟩).app (h9.mono fun r m z => ⟨?_, by omega⟩)
        · have := z.2
          rw [List.getElem?_set_ne (by omega)]; exact gr'.at z.1
        · have := z.2
          rw [List.getElem?_set_ne (by omega)]; exact z.1
  · subst hδ
    have e : A.take (A.zip ks).length = A := List.take_of_length_le (by rw [List.length_zip]; omega)
    rw [e] at h7
    rw [x_cons, x_ret, w_var]
    exact ⟨_, rfl, ⟨gr0.len, ms, hm, h7.mono fun _ _ z => ⟨z.1, by have := gr0.len; have := z.2; omega⟩⟩, gr0.trans gri⟩
def F29 (n : Nat) (c : Co) (so : Bool) : Prop := ∀ g, (runF P.T n 29 [c.d, .bl so] g).w (AQ g (fa c so))
theorem F29_nt (n : Nat) (c : Co) (so : Bool) (h : F29 n c (!so)) : F29 (n + 1) (.nt c) so := by
  intro g
  rw [run_er (F := f29) rfl e29 rfl, b29_eq]
  simp -implicitDefEqProofs [PD.R.w, fin_w, startD, sizeLine_eq, Co.d, eqS ok_not ok_not]
  exact h g
theorem or_and : (("and" : Str) == "or") = false := by decide +kernel
theorem F29_an (n : Nat) (a b : Co) (so : Bool) (h1 : F29 n a so) (h2 : F29 n b so) (ha : a.dep ≤ 3) (hb : b.dep ≤ 3) : F29 (n + 1) (.an a b) so := by
  intro g
  rw [run_er (F := f29) rfl e29 rfl, b29_eq]
  have fA := few_3 a so ha
  have fB := few_3 b so hb
  simp -implicitDefEqProofs [PD.R.w, fin_w, startD, sizeLine_eq, Co.d, eqS ok_and ok_not, in2, eqS ok_and ok_or]
  refine w_mono (h1 g) fun y g1 ⟨k, e, al, gr⟩ => ?_
  subst e
  refine w_mono (h2 g1) fun y g2 ⟨j, e, al2, gr2⟩ => ?_
  subst e
  cases so with
  | true =>
    simp -implicitDefEqProofs
    exact s29m_w k j g g2 (gr.trans gr2) (al.gr gr2) al2 fA fB
  | false =>
    obtain ⟨_, ks, h3, h4⟩ := al.gr gr2
    obtain ⟨_, js, h5, h6⟩ := al2.low gr.len
    have l1 := h4.len
    have l2 := h6.len
    have b1 := fA.2.1
    have b2 := fB.2.1
    simp -implicitDefEqProofs
    rw [addLL h3 h5 (by simp; omega)]
    exact ⟨_, rfl, ⟨(gr.trans gr2).len, ks ++ js, by rw [List.map_append]; exact at_new, (h4.app h6).mono fun _ _ z => ⟨at_old z.1, z.2⟩⟩, (gr.trans gr2).trans (Gr.add _ _)⟩
theorem F29_or (n : Nat) (a b : Co) (so : Bool) (h1 : F29 n a so) (h2 : F29 n b so) (ha : a.dep ≤ 3) (hb : b.dep ≤ 3) : F29 (n + 1) (.orr a b) so := by
  intro g
  rw [run_er (F := f29) rfl e29 rfl, b29_eq]
  have fA := few_3 a so ha
  have fB := few_3 b so hb
  simp -implicitDefEqProofs [PD.R.w, fin_w, startD, sizeLine_eq, Co.d, eqS ok_or ok_not, in2, eqS ok_or ok_or]
  refine w_mono (h1 g) fun y g1 ⟨k, e, al, gr⟩ => ?_
  subst e
  refine w_mono (h2 g1) fun y g2 ⟨j, e, al2, gr2⟩ => ?_
  subst e
  cases so with
  | false =>
    simp -implicitDefEqProofs
    exact s29m_w k j g g2 (gr.trans gr2) (al.gr gr2) al2 fA fB
  | true =>
    obtain ⟨_, ks, h3, h4⟩ := al.gr gr2
    obtain ⟨_, js, h5, h6⟩ := al2.low gr.len
    have l1 := h4.len
    have l2 := h6.len
    have b1 := fA.2.1
    have b2 := fB.2.1
    simp -implicitDefEqProofs
    rw [addLL h3 h5 (by simp; omega)]
    exact ⟨_, rfl, ⟨(gr.trans gr2).len, ks ++ js, by rw [List.map_append]; exact at_new, (h4.app h6).mono fun _ _ z => ⟨at_old z.1, z.2⟩⟩, (gr.trans gr2).trans (Gr.add _ _)⟩
theorem F29_cm (n : Nat) {a b : Ex} (ha : Ok2 a) (hb : Ok2 b) (w : Cw) (so : Bool) (hn : 25 ≤ n) : F29 (n + 1) (.cm w a b) so := by
  intro g
  rw [run_er (F := f29) rfl e29 rfl, b29_eq]
  have q1 : ("and" == w.w) = false := by cases w <;> decide +kernel
  have q2 : ("or" == w.w) = false := by cases w <;> decide +kernel
  simp -implicitDefEqProofs [PD.R.w, fin_w, startD, sizeLine_eq, Co.d, eqS (ok_cw w) ok_not, cw_not, in2, q1, q2]
  refine w_mono (p28 ha.inp n (by omega) g) fun y g1 ⟨e, gr⟩ => ?_
  subst e
  refine w_mono (p28 hb.inp n (by omega) g1) fun y g2 ⟨e, gr2⟩ => ?_
  subst e
  cases so with
  | true =>
    simp -implicitDefEqProofs
    exact s29_w n ha hb w hn g g2 (gr.trans gr2)
  | false =>
    have gg := (gr.trans gr2).trans (Gr.add g2 [DO.dic [(.inr "lt", .str "le"), (.inr "le", .str "lt"), (.inr "eq", .str "ne"), (.inr "ne", .str "eq")]])
    simp -implicitDefEqProofs [dct4, dct4_get]
    refine x_unp ?_
    cases w with
    | lt =>
      simp -implicitDefEqProofs [in2, sizeLine_eq]
      exact ⟨_, rfl, s29_w n hb ha .le hn g _ gg⟩
    | le =>
      simp -implicitDefEqProofs [in2, sizeLine_eq]
      exact ⟨_, rfl, s29_w n hb ha .lt hn g _ gg⟩
    | eq =>
      simp -implicitDefEqProofs [in2, sizeLine_eq]
      exact ⟨_, rfl, s29_w n ha hb .ne hn g _ gg⟩
    | ne =>
      simp -implicitDefEqProofs [in2, sizeLine_eq]
      exact ⟨_, rfl, s29_w n ha hb .eq hn g _ gg⟩
theorem r29 : ∀ (c : Co) (so : Bool) (n : Nat), c.all Ok2 → c.dep ≤ 3 → c.dep + 25 ≤ n → F29 n c so
  | .cm w a b, so, n, h, hd, hn => by
    obtain ⟨n, rfl⟩ : ∃ j, n = j + 1 := ⟨n - 1, by omega⟩
    exact F29_cm n h.1 h.2 w so (by have : 1 + 25 ≤ n + 1 := hn; omega)
  | .nt c, so, n, h, hd, hn => by
    have hn : c.dep + 1 + 25 ≤ n := hn
    have hd : c.dep + 1 ≤ 3 := hd
    obtain ⟨n, rfl⟩ : ∃ j, n = j + 1 := ⟨n - 1, by omega⟩
    exact F29_nt n c so (r29 c (!so) n h (by omega) (by omega))
  | .an a b, so, n, h, hd, hn => by
    have hn : max a.dep b.dep + 1 + 25 ≤ n := hn
    have hd : max a.dep b.dep + 1 ≤ 3 := hd
    obtain ⟨n, rfl⟩ : ∃ j, n = j + 1 := ⟨n - 1, by omega⟩
    exact F29_an n a b so (r29 a so n h.1 (by omega) (by omega)) (r29 b so n h.2 (by omega) (by omega)) (by omega) (by omega)
  | .orr a b, so, n, h, hd, hn => by
    have hn : max a.dep b.dep + 1 + 25 ≤ n := hn
    have hd : max a.dep b.dep + 1 ≤ 3 := hd
    obtain ⟨n, rfl⟩ : ∃ j, n = j + 1 := ⟨n - 1, by omega⟩
    exact F29_or n a b so (r29 a so n h.1 (by omega) (by omega)) (r29 b so n h.2 (by omega) (by omega)) (by omega) (by omega)
end K74
set_option linter.all false
set_option maxRecDepth 100000
set_option maxHeartbeats 4000000
/-! k74: whether alternatives hold; drawn values; sameness. -/
namespace K74
open PySem PySem.Spec PyProof.Rows L2 PD
/-! ### whether alternatives hold -/
section
variable (ρ : Str → Int)
def rw1 (r : Row) : Bool := r.all fun p => decide (wv ρ p.1 ≤ wv ρ p.2)
def rv (A : List Row) : Bool := A.any (rw1 ρ)
theorem rv_app (A B : List Row) : rv ρ (A ++ B) = (rv ρ A || rv ρ B) := by unfold rv; rw [List.any_append]
theorem rw1_app (r s : Row) : rw1 ρ (r ++ s) = (rw1 ρ r && rw1 ρ s) := by unfold rw1; rw [List.all_append]
theorem rv_map (r : Row) : ∀ B : List Row, rv ρ (B.map fun s => r ++ s) = (rw1 ρ r && rv ρ B)
  | [] => by simp [rv]
  | s :: B => by
    have := rv_map r B
    unfold rv at this ⊢
    rw [List.map_cons, List.any_cons, List.any_cons, this, rw1_app]
    cases rw1 ρ r <;> simp
theorem rv_prod (B : List Row) : ∀ A : List Row, rv ρ (prod A B) = (rv ρ A && rv ρ B)
  | [] => by simp [rv, prod]
  | r :: A => by
    have h1 := rv_prod B A
    have h2 : prod (r :: A) B = (B.map fun s => r ++ s) ++ prod A B := by unfold prod; rw [List.flatMap_cons]
    rw [h2, rv_app, rv_map, h1]
    have : rv ρ (r :: A) = (rw1 ρ r || rv ρ A) := by unfold rv; rw [List.any_cons]
    rw [this]
    cases rw1 ρ r <;> cases rv ρ A <;> cases rv ρ B <;> rfl
theorem o1_v (x : Ex) : wv ρ (o1 x) = wv ρ x + 1 := by unfold o1; rw [pl_v]; rfl
theorem dec_iff {p q : Prop} [Decidable p] [Decidable q] (h : p ↔ q) : decide p = decide q := by by_cases hp : p <;> simp [hp, h.mp] <;> simp_all
theorem rv_lots (w : Cw) (x y : Ex) : rv ρ (lots w x y) = w.v (wv ρ x - wv ρ y) := by
  cases w with
  | le => simp only [lots, rv, rw1, List.any_cons, List.any_nil, List.all_cons, List.all_nil, Bool.and_true, Bool.or_false, Cw.v]; exact dec_iff (by omega)
  | lt => simp only [lots, rv, rw1, List.any_cons, List.any_nil, List.all_cons, List.all_nil, Bool.and_true, Bool.or_false, Cw.v, o1_v]; exact dec_iff (by omega)
  | eq =>
    simp only [lots, rv, rw1, List.any_cons, List.any_nil, List.all_cons, List.all_nil, Bool.and_true, Bool.or_false, Cw.v]
    rw [← Bool.decide_and, show ((wv ρ x - wv ρ y == 0) : Bool) = decide (wv ρ x - wv ρ y = 0) from rfl]
    exact dec_iff (by omega)
  | ne =>
    simp only [lots, rv, rw1, List.any_cons, List.any_nil, List.all_cons, List.all_nil, Bool.and_true, Bool.or_false, Cw.v, o1_v]
    rw [← Bool.decide_or, show (!(wv ρ x - wv ρ y == 0) : Bool) = decide (¬ (wv ρ x - wv ρ y = 0)) from (decide_not).symm]
    exact dec_iff (by omega)
theorem rv_fa : ∀ (c : Co) (so : Bool), rv ρ (fa c so) = (hv ρ c == so)
  | .nt c, so => by
    show rv ρ (fa c (!so)) = _
    rw [rv_fa c (!so)]
    simp only [hv]
    cases hv ρ c <;> cases so <;> rfl
  | .an a b, true => by
    show rv ρ (prod _ _) = _
    rw [rv_prod, rv_fa a, rv_fa b]; simp only [hv]
    cases hv ρ a <;> cases hv ρ b <;> rfl
  | .an a b, false => by
    show rv ρ (_ ++ _) = _
    rw [rv_app, rv_fa a, rv_fa b]; simp only [hv]
    cases hv ρ a <;> cases hv ρ b <;> rfl
  | .orr a b, true => by
    show rv ρ (_ ++ _) = _
    rw [rv_app, rv_fa a, rv_fa b]; simp only [hv]
    cases hv ρ a <;> cases hv ρ b <;> rfl
  | .orr a b, false => by
    show rv ρ (prod _ _) = _
    rw [rv_prod, rv_fa a, rv_fa b]; simp only [hv]
    cases hv ρ a <;> cases hv ρ b <;> rfl
  | .cm w a b, true => by
    show rv ρ (lots _ _ _) = _
    rw [rv_lots, pl_v, pl_v]; simp only [hv]
    cases w.v (wv ρ a - wv ρ b) <;> rfl
  | .cm .lt a b, false => by
    show rv ρ (lots .le _ _) = _
    rw [rv_lots, pl_v, pl_v]
    show decide (wv ρ b - wv ρ a ≤ 0) = (decide (wv ρ a - wv ρ b < 0) == false)
    by_cases h : wv ρ a - wv ρ b < 0
    · rw [decide_eq_true h, decide_eq_false (by omega)]; rfl
    · rw [decide_eq_false h, decide_eq_true (by omega)]; rfl
  | .cm .le a b, false => by
    show rv ρ (lots .lt _ _) = _
    rw [rv_lots, pl_v, pl_v]
    show decide (wv ρ b - wv ρ a < 0) = (decide (wv ρ a - wv ρ b ≤ 0) == false)
    by_cases h : wv ρ a - wv ρ b ≤ 0
    · rw [decide_eq_true h, decide_eq_false (by omega)]; rfl
    · rw [decide_eq_false h, decide_eq_true (by omega)]; rfl
  | .cm .eq a b, false => by
    show rv ρ (lots .ne _ _) = _
    rw [rv_lots, pl_v, pl_v]
    show (!(wv ρ a - wv ρ b == 0)) = ((wv ρ a - wv ρ b == 0) == false)
    cases (wv ρ a - wv ρ b == 0) <;> rfl
  | .cm .ne a b, false => by
    show rv ρ (lots .eq _ _) = _
    rw [rv_lots, pl_v, pl_v]
    show (wv ρ a - wv ρ b == 0) = ((!(wv ρ a - wv ρ b == 0)) == false)
    cases (wv ρ a - wv ρ b == 0) <;> rfl
end
/-! ### names of a plain form -/
theorem ga_ns (N : List Str) : ∀ (t : Ex) (m : Int), t.ns N → ∀ q ∈ (ga t m).2, q.1.ns N := by
  intro t
  induction t with
  | num i => intro m _ q hq; simp [ga] at hq
  | nam x => intro m h q hq; simp [ga] at hq; subst hq; exact h
  | dv a k ha => intro m h q hq; simp [ga] at hq; subst hq; exact h
  | md a k ha => intro m h q hq; simp [ga] at hq; subst hq; exact h
  | tim k a ha => intro m h q hq; exact ha (m * k) h q hq
  | ad a b ha hb => intro m h q hq; exact (List.mem_append.mp hq).elim (ha m h.1 q) (hb m h.2 q)
  | sb a b ha hb => intro m h q hq; exact (List.mem_append.mp hq).elim (ha m h.1 q) (hb (-m) h.2 q)
theorem pf_ns (N : List Str) (u : Ex) (h : u.ns N) : (pf u).ns N :=
  pcs_all (Ex.ns N) (fun a b ha hb => ⟨ha, hb⟩) _ _ trivial fun q hq => one_all (Ex.ns N) (fun k a ha => ha) q (by
    obtain ⟨r, hr, e⟩ := fm_key u hq
    rw [← e]; exact ga_ns N u 1 h r hr)
theorem dvE_ns (N : List Str) (r : Ex) (k : Int) (h : r.ns N) : (dvE r k).ns N := by cases r <;> first | exact trivial | exact h
theorem mdE_ns (N : List Str) (r : Ex) (k : Int) (h : r.ns N) : (mdE r k).ns N := by cases r <;> first | exact trivial | exact h
theorem ip_ns (N : List Str) : ∀ t : Ex, t.ns N → (ip t).ns N
  | .num _, h => h
  | .nam _, h => h
  | .ad a b, h => ⟨ip_ns N a h.1, ip_ns N b h.2⟩
  | .sb a b, h => ⟨ip_ns N a h.1, ip_ns N b h.2⟩
  | .tim _ a, h => ip_ns N a h
  | .dv a k, h => by rw [ip_dv]; exact dvE_ns N _ _ (pf_ns N _ (ip_ns N a h))
  | .md a k, h => by rw [ip_md]; exact mdE_ns N _ _ (pf_ns N _ (ip_ns N a h))
theorem pl_ns (N : List Str) (t : Ex) (h : t.ns N) : (pl t).ns N := pf_ns N _ (ip_ns N t h)
theorem Wo.of {N : List Str} {t : Ex} (h : Inp t) (hn : t.ns N) : Wo N t := ⟨hn, h.kb, h.mag, by have := h.dep; omega⟩
theorem Wo.ofp {N : List Str} {t : Ex} (h : Inp t) (hn : t.ns N) : Wo N (pl t) := ⟨pl_ns N t hn, pl_kb t h.kb, (pl_fit h).mag, h.okp.dep⟩
/-! ### sameness -/
theorem sm_3 {g : G} {k : Nat} {w : Str} {a b c d : D} (hw : PyData.strOk w = true) (h : Sm g k a b) (h2 : Sm g k c d) : Sm g (k + 1) (.tup [.str w, a, c]) (.tup [.str w, b, d]) :=
  .tup rfl (by show 3 < 1000000; omega) fun i x y hx hy => by
    match i, hx, hy with
    | 0, hx, hy => cases hx; cases hy; exact .str hw
    | 1, hx, hy => cases hx; cases hy; exact h
    | 2, hx, hy => cases hx; cases hy; exact h2
theorem sm_2 {g : G} {k : Nat} {w : Str} {a b : D} (hw : PyData.strOk w = true) (h : Sm g k a b) : Sm g (k + 1) (.tup [.str w, a]) (.tup [.str w, b]) :=
  .tup rfl (by show 2 < 1000000; omega) fun i x y hx hy => by
    match i, hx, hy with
    | 0, hx, hy => cases hx; cases hy; exact .str hw
    | 1, hx, hy => cases hx; cases hy; exact h
theorem _root_.PD.Sm.up {g : G} {k j : Nat} {x y : D} (h : Sm g k x y) (hj : k ≤ j) : Sm g j x y := by
  induction h generalizing j with
  | int => exact .int
  | str h => exact .str h
  | bl => exact .bl
  | non => exact .non
  | @tup k ds es a b _ ih =>
    obtain ⟨m, rfl⟩ : ∃ m, j = m + 1 := ⟨j - 1, by omega⟩
    exact .tup a b fun i x y hx hy => ih i x y hx hy (by omega)
  | @lst k p q ds es a b c d _ ih =>
    obtain ⟨m, rfl⟩ : ∃ m, j = m + 1 := ⟨j - 1, by omega⟩
    exact .lst a b c d fun i x y hx hy => ih i x y hx hy (by omega)
theorem sm_d (g : G) : ∀ t : Ex, t.nk → Sm g t.dep t.d t.d
  | .num i, _ => sm_2 ok_number .int
  | .nam x, h => sm_2 ok_name (.str h)
  | .ad a b, h => sm_3 ok_add ((sm_d g a h.1).up (Nat.le_max_left _ _)) ((sm_d g b h.2).up (Nat.le_max_right _ _))
  | .sb a b, h => sm_3 ok_sub ((sm_d g a h.1).up (Nat.le_max_left _ _)) ((sm_d g b h.2).up (Nat.le_max_right _ _))
  | .tim k a, h => sm_3 ok_times .int (sm_d g a h)
  | .dv a k, h => sm_3 ok_div (sm_d g a h) .int
  | .md a k, h => sm_3 ok_mod (sm_d g a h) .int
theorem sm_pr (g : G) (p : Ex × Ex) (h1 : p.1.nk ∧ p.1.dep ≤ 46) (h2 : p.2.nk ∧ p.2.dep ≤ 46) : Sm g 47 (prE p) (prE p) :=
  .tup rfl (by show 2 < 1000000; omega) fun i x y hx hy => by
    match i, hx, hy with
    | 0, hx, hy => cases hx; cases hy; exact (sm_d g p.1 h1.1).up h1.2
    | 1, hx, hy => cases hx; cases hy; exact (sm_d g p.2 h2.1).up h2.2
def rok (A : List Row) : Prop := ∀ r ∈ A, ∀ p ∈ r, (p.1.nk ∧ p.1.dep ≤ 46) ∧ (p.2.nk ∧ p.2.dep ≤ 46)
theorem sm_al {b c : Nat} {g : G} {k j : Nat} {A : List Row} (h1 : Al b g k A) (h2 : Al c g j A) (hf : few A 256) (hr : rok A) : Sm g 49 (.ref k) (.ref j) := by
  obtain ⟨_, ks, a1, a2⟩ := h1
  obtain ⟨_, js, b1, b2⟩ := h2
  have l1 := a2.len
  have l2 := b2.len
  have hl := hf.2.1
  refine .lst a1 b1 (by simp; omega) (by simp; omega) fun i x y hx hy => ?_
  rw [List.getElem?_map] at hx hy
  have hi : i < ks.length := by
    by_cases h : i < ks.length
    · exact h
    · rw [List.getElem?_eq_none (by omega)] at hx; cases hx
  rw [List.getElem?_eq_getElem hi] at hx
  rw [List.getElem?_eq_getElem (by omega)] at hy
  cases hx; cases hy
  have hiA : i < A.length := by omega
  have r1 := (a2.get (i := i) (List.getElem?_eq_getElem hiA) (List.getElem?_eq_getElem hi)).1
  have r2 := (b2.get (i := i) (List.getElem?_eq_getElem hiA) (List.getElem?_eq_getElem (by omega : i < js.length))).1
  have hmem := List.getElem_mem hiA
  have rl := hf.2.2 _ hmem
  refine .lst r1 r2 rfl (by simp; omega) fun m x y hx hy => ?_
  rw [hx] at hy
  cases hy
  rw [List.getElem?_map] at hx
  obtain ⟨p, hp, e⟩ := Option.map_eq_some_iff.mp hx
  subst e
  have := hr _ hmem p (List.mem_of_getElem? hp)
  exact sm_pr g p this.1 this.2
theorem rok_lots (w : Cw) {a b : Ex} (ha : Ok2 a) (hb : Ok2 b) : rok (lots w (pl a) (pl b)) := by
  have q1 : ∀ {a : Ex}, Ok2 a → (pl a).nk ∧ (pl a).dep ≤ 46 := fun {a} h => ⟨pl_nk a h.inp.nk, h.inp.okp.dep⟩
  have q2 : ∀ {a : Ex}, Ok2 a → (o1 (pl a)).nk ∧ (o1 (pl a)).dep ≤ 46 := fun {a} h => by
    have a1 := pl_dep a
    have a2 : 2 ^ a.dep ≤ 4 := Nat.pow_le_pow_right (n := 2) (by omega) h.dep
    have a6 : (pl a).lv ≤ (ip a).lv + 1 := pf_lv (ip a)
    have a7 := ip_lv a
    have a8 := lv2 a
    have h3 := pf_dep (ip (.ad (pl a) (.num 1)))
    rw [one_ip h.inp] at h3
    have h4 : (pf (.ad (pl a) (.num 1))).dep ≤ (max (pl a).dep 1 + 1) + 1 + ((pl a).lv + 1) := h3
    have hd := h.dep
    refine ⟨pl_nk _ ⟨pl_nk a h.inp.nk, trivial⟩, ?_⟩
    show (pf (ip (.ad (pl a) (.num 1)))).dep ≤ 46
    rw [one_ip h.inp]
    omega
  cases w <;> intro r hr p hp <;> simp [lots] at hr
  · subst hr; simp at hp; subst hp; exact ⟨q2 ha, q1 hb⟩
  · subst hr; simp at hp; subst hp; exact ⟨q1 ha, q1 hb⟩
  · subst hr; simp at hp; rcases hp with rfl | rfl
    · exact ⟨q1 ha, q1 hb⟩
    · exact ⟨q1 hb, q1 ha⟩
  · rcases hr with rfl | rfl
    · simp at hp; subst hp; exact ⟨q2 ha, q1 hb⟩
    · simp at hp; subst hp; exact ⟨q2 hb, q1 ha⟩
theorem rok_app {A B : List Row} (a : rok A) (b : rok B) : rok (A ++ B) := fun r hr => (List.mem_append.mp hr).elim (a r) (b r)
theorem rok_prod {A B : List Row} (a : rok A) (b : rok B) : rok (prod A B) := fun r hr p hp => by
  obtain ⟨x, hx, hr⟩ := List.mem_flatMap.mp hr
  obtain ⟨y, hy, e⟩ := List.mem_map.mp hr
  subst e
  exact (List.mem_append.mp hp).elim (a x hx p) (b y hy p)
theorem rok_fa : ∀ (c : Co) (so : Bool), c.all Ok2 → rok (fa c so)
  | .nt c, so, h => rok_fa c (!so) h
  | .an a b, true, h => rok_prod (rok_fa a true h.1) (rok_fa b true h.2)
  | .an a b, false, h => rok_app (rok_fa a false h.1) (rok_fa b false h.2)
  | .orr a b, true, h => rok_app (rok_fa a true h.1) (rok_fa b true h.2)
  | .orr a b, false, h => rok_prod (rok_fa a false h.1) (rok_fa b false h.2)
  | .cm w a b, true, h => rok_lots w h.1 h.2
  | .cm .lt a b, false, h => rok_lots .le h.2 h.1
  | .cm .le a b, false, h => rok_lots .lt h.2 h.1
  | .cm .eq a b, false, h => rok_lots .ne h.1 h.2
  | .cm .ne a b, false, h => rok_lots .eq h.1 h.2
end K74
set_option linter.all false
set_option maxRecDepth 100000
set_option maxHeartbeats 4000000
/-! k74: drawn values; an expression is right. -/
namespace K74
open PySem PySem.Spec PyProof.Rows L2 PD
theorem get_map (k : Key) (v : D) : ∀ kvs : List (Key × D), ∀ k', getK k' (kvs.map fun kv => if kv.1 = k then (kv.1, v) else kv) = if k' = k then (if (getK k kvs).isSome then some v else none) else getK k' kvs
  | [], k' => by simp [getK]
  | (a, w) :: r, k' => by
    have ih := get_map k v r k'
    by_cases e : a = k
    · subst e
      simp only [List.map_cons, if_true, getK]
      by_cases e2 : a = k'
      · subst e2; simp
      · rw [if_neg e2, ih]
        have e3 : ¬ k' = a := fun z => e2 z.symm
        simp [e3, e2]
    · simp only [List.map_cons, if_neg e, getK]
      by_cases e2 : a = k'
      · subst e2; simp [e]
      · rw [if_neg e2, ih]
        by_cases e3 : k' = k
        · simp [e3]
          
        · simp [e3, e2]
theorem get_app (k' : Key) (q : Key × D) : ∀ kvs : List (Key × D), getK k' (kvs ++ [q]) = if (getK k' kvs).isSome then getK k' kvs else if q.1 = k' then some q.2 else none
  | [] => by simp [getK]
  | (a, w) :: r => by
    have ih := get_app k' q r
    simp only [List.cons_append, getK]
    by_cases e : a = k'
    · simp [e]
    · simp only [if_neg e]; exact ih
theorem any_get (k : Key) : ∀ kvs : List (Key × D), (kvs.any fun kv => decide (kv.1 = k)) = (getK k kvs).isSome
  | [] => rfl
  | (a, w) :: r => by
    have ih := any_get k r
    simp only [List.any_cons, getK]
    by_cases e : a = k
    · simp [e]
    · simp [e, ih]
theorem get_put (k k' : Key) (v : D) (kvs : List (Key × D)) : getK k' (putD kvs k v) = if k' = k then some v else getK k' kvs := by
  unfold putD
  split
  · rename_i h
    rw [any_get] at h
    rw [get_map]
    by_cases e : k' = k
    · simp [e, h]
    · simp [e]
  · rename_i h
    rw [any_get] at h
    rw [get_app]
    by_cases e : k' = k
    · subst e
      simp at h
      simp [h]
    · have ne : ¬ k = k' := fun z => e z.symm
      rw [if_neg e]
      show (if (getK k' kvs).isSome = true then getK k' kvs else if k = k' then some v else none) = _
      rw [if_neg ne]
      cases getK k' kvs <;> rfl
theorem merge_get : ∀ (ps : List (Str × Int)) (acc : List (Key × D)), (∀ x v, getK (.inr x) acc = some v → ∃ i, v = .int i) →
    (∀ x v, getK (.inr x) ((ps.map fun p => ((.inr p.1 : Key), D.int p.2)).foldl (fun acc p => putD acc p.1 p.2) acc) = some v → ∃ i, v = .int i) ∧
    (∀ x, (x ∈ ps.map (·.1) ∨ (getK (.inr x) acc).isSome) → (getK (.inr x) ((ps.map fun p => ((.inr p.1 : Key), D.int p.2)).foldl (fun acc p => putD acc p.1 p.2) acc)).isSome)
  | [], acc, h => ⟨h, fun x hx => hx.elim (fun z => absurd z (by simp)) id⟩
  | p :: ps, acc, h => by
    obtain ⟨h1, h2⟩ := merge_get ps (putD acc (.inr p.1) (.int p.2)) fun x v hv => by
      rw [get_put] at hv
      split at hv
      · cases hv; exact ⟨_, rfl⟩
      · exact h x v hv
    refine ⟨h1, fun x hx => h2 x ?_⟩
    rw [get_put]
    rcases hx with hx | hx
    · rcases List.mem_cons.mp hx with z | z
      · have z : x = p.1 := z
        subst z; right; simp
      · exact .inl z
    · right
      split
      · rfl
      · exact hx
def vpr (p : Str × Int) : D := .tup [.str p.1, .int p.2]
theorem pairs_v : ∀ ps : List (Str × Int), pairsD (ps.map vpr) = some (ps.map fun p => ((.inr p.1 : Key), D.int p.2))
  | [] => rfl
  | p :: ps => by
    show (match keyD (.str p.1), pairsD (ps.map vpr) with
      | some k, some qs => some ((k, D.int p.2) :: qs)
      | _, _ => none) = _
    rw [pairs_v ps]; rfl
theorem dict_w {k : Nat} {ps : List (Str × Int)} {g : G} (hk : g[k]? = some (.lst (ps.map vpr))) {Q : D → G → Prop} {Ec : Str → Fs → G → Prop} (hq : ∀ g' ρ, Gr g g' → Env g' g.length (ps.map (·.1)) ρ → Q (.ref g.length) g') : (bltD .dict [.ref k] g).sat Q Ec := by
  show (match (lstD (.ref k) g).bind pairsD with
    | some ps => newD (mergeD ps) g
    | none => (match dicD (.ref k) g with
      | some kvs => newD kvs g
      | none => .bad)).sat Q Ec
  have e : lstD (.ref k) g = some (ps.map vpr) := by
    show (match g[k]? with
      | some (.lst ds) => some ds
      | _ => none) = _
    rw [hk]
  rw [e]
  show (match pairsD (ps.map vpr) with
    | some ps => newD (mergeD ps) g
    | none => (match dicD (.ref k) g with
      | some kvs => newD kvs g
      | none => .bad)).sat Q Ec
  rw [pairs_v]
  show Q (.ref g.length) (g ++ [.dic (mergeD _)])
  obtain ⟨h1, h2⟩ := merge_get ps [] fun x v hv => by simp [getK] at hv
  refine hq _ (fun x => match getK (.inr x) (mergeD (ps.map fun p => ((.inr p.1 : Key), D.int p.2))) with
    | some (.int v) => v
    | _ => 0) (Gr.add _ _) ⟨_, at_new, fun x hx => ?_⟩
  have a := h2 x (.inl hx)
  obtain ⟨v, hv⟩ := Option.isSome_iff_exists.mp a
  obtain ⟨i, rfl⟩ := h1 x v hv
  have hv : getK (.inr x) (mergeD (ps.map fun p => ((.inr p.1 : Key), D.int p.2))) = some (.int i) := hv
  simp only [hv]
/-- the drawn values -/
def dicE (i : Nat) (a b : Int) : E := (.blt .dict p0 (.cons (.lc (.tup (.cons (.var i PD.e0 p0) (.cons (.bin .Sub (.call 19 PD.e0 p0 (.cons (.var 0 PD.e0 p0) (.cons (.num a 0 p0) .nil)) p0) (.num b 0 p0) p0) .nil)) 0 p0) (.name i PD.e0 p0) (.seq (.var 2 PD.e0 p0)) .nil s0 [(PD.e0, i)] p0) .nil) p0)
theorem dicE_w (n : Nat) (hn : 1 ≤ n) (i : Nat) (hi : 3 ≤ i) (a b : Int) (ha : 1 ≤ a) (ha2 : a ≤ 8000) (N : List Str) (hN : N.length ≤ 100) (z : Spot) (T : Nat) (g : G) (kn : Nat) (st : Stm z T g) (hT : T + 100 < 2 ^ 39) (hk : g[kn]? = some (.lst (N.map D.str))) (hb : z.b ≤ kn) (δ : Sl) (hl : i < δ.length) (h0 : δ[0]? = some (some (.ref z.s))) (h2 : δ[2]? = some (some (.ref kn))) {Q : D → G → Prop} {Ec : Str → Fs → G → Prop}
    (hq : ∀ m g' ρ, Stm z (T + 100) g' → Sx z.b g g' → z.b ≤ m → Env g' m N ρ → Q (.ref m) g') : (ev (runF P.T n) (dicE i a b) δ g).sat Q Ec := by
  unfold dicE
  rw [w_blt, wa_cons]
  have bg := st.len
  refine lc_inv N D.str (fun i acc gi => i ≤ N.length ∧ Stm z (T + i) gi ∧ Sx z.b g gi ∧ gi[g.length]? = some (.lst acc) ∧ ∃ ps : List (Str × Int), acc = ps.map vpr ∧ ps.map (·.1) = N.take i) (by omega) (evI_seq (x := .ref kn) (g1 := g) (by simp only [ev, h2, Option.join_some]; rfl) (seq_ref hk)) (fun j acc gi ⟨hj, h1, h3, h4, ps, e1, e2⟩ => ⟨?_, h4, ?_⟩) ⟨Nat.zero_le _, st.gr (Gr.add _ _), Sx.gr (Gr.add _ _), at_new, [], rfl, rfl⟩ (fun j hj acc gi ⟨_, h1, h3, h4, ps, e1, e2⟩ => ?_) fun acc g' ⟨_, h1, h3, h4, ps, e1, e2⟩ => ?_
  · show (seqD (.ref kn) gi).map _ = _
    rw [seq_ref (h3.at hb hk)]; rfl
  · have := congrArg List.length e2
    rw [List.length_map, List.length_take] at this
    rw [e1, List.length_map]; omega
  · refine ⟨(wipeD δ [i]).set i (some (.str N[j])), rfl, ?_⟩
    have v0 : ((wipeD δ [i]).set i (some (.str N[j])))[0]? = some (some (.ref z.s)) := by
      rw [List.getElem?_set_ne (by omega)]
      show (δ.set i none)[0]? = _
      rw [List.getElem?_set_ne (by omega)]; exact h0
    have vi : ((wipeD δ [i]).set i (some (.str N[j])))[i]? = some (some (.str N[j])) := by
      rw [List.getElem?_set_self]
      show i < (δ.set i none).length
      rw [List.length_set]; exact hl
    show (PD.R.ok true gi).sat _ _
    rw [ok_w, if_pos rfl]
    simp only [PD.R.w, w_tup, wa_cons, wa_nil, w_var, vi, Option.join_some, some_w, w_bin, w_call, v0, w_num]
    refine w_mono (drw n hn z (T + j) gi a h1 (by omega) ha ha2) fun y g3 ⟨⟨r, r0, r1, e⟩, st3, sx3⟩ => ?_
    subst e
    have hk3 := sx3.at bg h4
    simp only [subII, List.length_cons, List.length_nil]
    rw [if_pos (by rw [sizeLine_eq]; omega)]
    refine ⟨hk3, hj, st3.set _ bg, (h3.trans sx3).set_new _ (Nat.le_refl _), Gr.set_at (List.getElem?_eq_some_iff.mp hk3).1, ps ++ [(N[j], r - b)], ?_, ?_⟩
    · rw [e1, List.map_append]; rfl
    · rw [List.map_append, e2, List.take_succ_eq_append_getElem hj]; rfl
  · rw [wa_nil]
    rw [e1] at h4
    rw [List.take_length] at e2
    refine dict_w h4 fun g2 ρ gr en => ?_
    rw [e2] at en
    exact hq _ g2 ρ ((h1.gr gr).up (by omega)) (h3.trans (Sx.gr gr)) (Nat.le_trans bg h3.len) en
end K74
set_option linter.all false
set_option maxRecDepth 100000
set_option maxHeartbeats 4000000
/-! k74: an expression is right. -/
namespace K74
open PySem PySem.Spec PyProof.Rows L2 PD
@[simp] theorem n30 : f30.N.length = 7 := rfl
def s30 : Ss := (.cons (.asg 5 PD.e0 p0 (dicE 6 60 30) p0)
    (.cons
    (.ifs (.cmp .NotEq (.call 25 PD.e0 p0 (.cons (.var 1 PD.e0 p0) (.cons (.var 5 PD.e0 p0) .nil)) p0) (.call 25 PD.e0 p0 (.cons (.var 3 PD.e0 p0) (.cons (.var 5 PD.e0 p0) .nil)) p0) p0) (.cons
      (.ret (.boo false 0 p0) p0)
      .nil) .nil p0)
    .nil))
def t30 : Ss := .cons (.forr (.name 4 PD.e0 p0) (.rng1 p0 (.num 4 0 p0) p0) s30 p0) (.cons (.ret (.boo true 0 p0) p0) .nil)
theorem b30_eq : b30 = (.cons
  (.asg 3 PD.e0 p0 (.call 28 PD.e0 p0 (.cons (.var 1 PD.e0 p0) .nil) p0) p0)
  (.cons
  (.ifs (.nt (.call 21 PD.e0 p0 (.cons (.lst (.cons (.call 11 PD.e0 p0 (.cons (.var 1 PD.e0 p0) .nil) p0) (.cons (.callK 11 PD.e0 p0 [] [0] (.cons (.call 22 PD.e0 p0 (.cons (.var 0 PD.e0 p0) (.cons (.var 1 PD.e0 p0) .nil)) p0) .nil) p0) (.cons (.call 11 PD.e0 p0 (.cons (.var 3 PD.e0 p0) .nil) p0) .nil))) p0) (.cons (.lst (.cons (.var 3 PD.e0 p0) (.cons (.var 3 PD.e0 p0) (.cons (.var 3 PD.e0 p0) .nil))) p0) .nil)) p0) p0) (.cons
    (.ret (.boo false 0 p0) p0)
    .nil) .nil p0)
  t30)) := rfl
theorem pd_d : ∀ t : Ex, Pd t.dep t.d := by
  have up : ∀ {k j : Nat} {d : D}, Pd k d → k ≤ j → Pd j d := fun {k j d} h hj => by
    induction h generalizing j with
    | atom h => exact .atom h
    | @tup k es h _ ih =>
      obtain ⟨m, rfl⟩ : ∃ m, j = m + 1 := ⟨j - 1, by omega⟩
      exact .tup h fun x hx => ih x hx (by omega)
  intro t
  induction t with
  | num i => exact .tup (by show 2 < 1000; omega) fun x hx => by simp at hx; rcases hx with rfl | rfl <;> exact .atom rfl
  | nam i => exact .tup (by show 2 < 1000; omega) fun x hx => by simp at hx; rcases hx with rfl | rfl <;> exact .atom rfl
  | ad a b ha hb =>
    exact .tup (by show 3 < 1000; omega) fun x hx => by
      simp at hx; rcases hx with rfl | rfl | rfl
      · exact .atom rfl
      · exact up ha (Nat.le_max_left _ _)
      · exact up hb (Nat.le_max_right _ _)
  | sb a b ha hb =>
    exact .tup (by show 3 < 1000; omega) fun x hx => by
      simp at hx; rcases hx with rfl | rfl | rfl
      · exact .atom rfl
      · exact up ha (Nat.le_max_left _ _)
      · exact up hb (Nat.le_max_right _ _)
  | tim k a ha =>
    exact .tup (by show 3 < 1000; omega) fun x hx => by
      simp at hx; rcases hx with rfl | rfl | rfl
      · exact .atom rfl
      · exact .atom rfl
      · exact ha
  | dv a k ha =>
    exact .tup (by show 3 < 1000; omega) fun x hx => by
      simp at hx; rcases hx with rfl | rfl | rfl
      · exact .atom rfl
      · exact ha
      · exact .atom rfl
  | md a k ha =>
    exact .tup (by show 3 < 1000; omega) fun x hx => by
      simp at hx; rcases hx with rfl | rfl | rfl
      · exact .atom rfl
      · exact ha
      · exact .atom rfl
theorem tn_d : ∀ t : Ex, tn t.d + 1 ≤ 2 ^ t.dep
  | .num _ => by show 0 + (0 + 0) + 1 + 1 ≤ 2 ^ 1; omega
  | .nam _ => by show 0 + (0 + 0) + 1 + 1 ≤ 2 ^ 1; omega
  | .ad a b => by
    have h1 := tn_d a
    have h2 := tn_d b
    have h3 := pw a.dep b.dep
    show 0 + (tn a.d + (tn b.d + 0)) + 1 + 1 ≤ 2 ^ (max a.dep b.dep + 1)
    rw [Nat.pow_succ]; omega
  | .sb a b => by
    have h1 := tn_d a
    have h2 := tn_d b
    have h3 := pw a.dep b.dep
    show 0 + (tn a.d + (tn b.d + 0)) + 1 + 1 ≤ 2 ^ (max a.dep b.dep + 1)
    rw [Nat.pow_succ]; omega
  | .tim k a => by
    have h1 := tn_d a
    show 0 + (0 + (tn a.d + 0)) + 1 + 1 ≤ 2 ^ (a.dep + 1)
    rw [Nat.pow_succ]; omega
  | .dv a k => by
    have h1 := tn_d a
    show 0 + (tn a.d + (0 + 0)) + 1 + 1 ≤ 2 ^ (a.dep + 1)
    rw [Nat.pow_succ]; omega
  | .md a k => by
    have h1 := tn_d a
    show 0 + (tn a.d + (0 + 0)) + 1 + 1 ≤ 2 ^ (a.dep + 1)
    rw [Nat.pow_succ]; omega
theorem t30_w (N : List Str) (hN : Nms N) (t : Ex) (hi : Inp t) (ns : t.ns N) (z : Spot) (T : Nat) (g : G) (kn n : Nat) (st : Stm z T g) (hT : T + 500 < 2 ^ 39) (hk : g[kn]? = some (.lst (N.map D.str))) (hb : z.b ≤ kn) (hn : 47 ≤ n) {x4 x5 x6 : Option D} {Qn : Sl → G → Prop} {Qr : D → G → Prop} {Es : Str → Fs → Sl → G → Prop}
    (hq : ∀ g', Stm z (T + 400) g' → Sx z.b g g' → Qr (.bl true) g') :
    (exes (runF P.T n) t30 [some (.ref z.s), some t.d, some (.ref kn), some (pl t).d, x4, x5, x6] g).sat Qn Qr Es := by
  unfold t30
  rw [x_cons, x_rng (by decide)]
  have w1 := Wo.of hi ns
  have w2 := Wo.ofp hi ns
  refine for_r (n := 4) (lo := 0) (fun i δ gi => Stm z (T + 100 * i) gi ∧ Sx z.b g gi ∧ ∃ x4 x5 x6, δ = [some (.ref z.s), some t.d, some (.ref kn), some (pl t).d, x4, x5, x6]) (by omega) (fun i hi δ gi ⟨h1, h2, x4, x5, x6, hδ⟩ => ?_) (fun δ gi ⟨h1, h2, x4, x5, x6, hδ⟩ => ?_) _ g ⟨st, Sx.refl _ _, x4, x5, x6, rfl⟩
  · subst hδ
    refine ⟨[some (.ref z.s), some t.d, some (.ref kn), some (pl t).d, some (.int (0 + i)), x5, x6], rfl, ?_⟩
    unfold s30
    rw [x_cons, x_asg]
    refine dicE_w n (by omega) 6 (by omega) 60 30 (by omega) (by omega) N hN.len z (T + 100 * i) gi kn h1 (by omega) (h2.at hb hk) hb _ (by simp) rfl rfl fun m g2 ρ st2 sx2 hm en => ?_
    have c1 := r25 en t n w1.ns w1.kb w1.mag (by have := w1.dep; omega)
    have c2 := r25 en (pl t) n w2.ns w2.kb w2.mag (by have := w2.dep; omega)
    rw [pl_v] at c2
    simp -implicitDefEqProofs [c1, c2, ok_w]
    exact ⟨by rw [show T + 100 * (i + 1) = T + 100 * i + 100 from by omega]; exact st2, h2.trans sx2⟩
  · subst hδ
    rw [x_cons, x_ret, w_boo]
    exact hq gi h1 h2
theorem r30 (N : List Str) (hN : Nms N) (t : Ex) (hi : Inp t) (ns : t.ns N) (z : Spot) (T : Nat) (g : G) (kn n : Nat) (st : Stm z T g) (hT : T + 1000 < 2 ^ 39) (hk : g[kn]? = some (.lst (N.map D.str))) (hb : z.b ≤ kn) (hn : 60 ≤ n) :
    (runF P.T n 30 [.ref z.s, t.d, .ref kn] g).w fun y g' => y = .bl true ∧ Stm z (T + 1000) g' ∧ Sx z.b g g' := by
  obtain ⟨n, rfl⟩ : ∃ j, n = j + 1 := ⟨n - 1, by omega⟩
  rw [run_er (F := f30) rfl e30 rfl, b30_eq]
  have dt := hi.dep
  have dp := hi.okp.dep
  have tb := tn_d t
  have p5 := p32 hi.dep
  generalize hQ : (fun (y : D) (g' : G) => y = D.bl true ∧ Stm z (T + 1000) g' ∧ Sx z.b g g') = Q
  simp -implicitDefEqProofs [PD.R.w, fin_w, startD, sizeLine_eq]
  refine w_mono (p28 hi n (by omega) g) fun y g1 ⟨e, gr1⟩ => ?_
  subst e
  refine w_mono (p11 hi.ok n t.dep t.d g1 (lz_d g1 t) (by omega) (by omega)) fun y g2 ⟨e, gr2⟩ => ?_
  subst e
  have st2 := st.gr (gr1.trans gr2)
  have c22 := r22 t.dep t.d z T g2 (n - t.dep - 2) (pd_d t) st2 (by omega)
  rw [show n - t.dep - 2 + t.dep + 2 = n from by omega] at c22
  refine w_mono c22 fun y g3 ⟨lz, st3, sx3⟩ => ?_
  refine w_mono (p11 hi.ok n t.dep y g3 lz.lz (by omega) (by omega)) fun y g4 ⟨e, gr4⟩ => ?_
  subst e
  refine w_mono (p11 hi.okp n (pl t).dep (pl t).d g4 (lz_d g4 (pl t)) (by omega) (by omega)) fun y g5 ⟨e, gr5⟩ => ?_
  subst e
  rw [pl_pl t hi.nk]
  have sd : ∀ g, Sm g 46 (pl t).d (pl t).d := fun g => (sm_d g (pl t) (pl_nk t hi.nk)).up dp
  have three : ∀ (g : G) (i : Nat) (x y : D), ([(pl t).d, (pl t).d, (pl t).d] : List D)[i]? = some x → ([(pl t).d, (pl t).d, (pl t).d] : List D)[i]? = some y → Sm g 46 x y := fun g i x y hx hy => by
    match i, hx, hy with
    | 0, hx, hy => cases hx; cases hy; exact sd g
    | 1, hx, hy => cases hx; cases hy; exact sd g
    | 2, hx, hy => cases hx; cases hy; exact sd g
  have same := sme 47 (.ref g5.length) (.ref (g5.length + 1)) (g5 ++ [DO.lst [(pl t).d, (pl t).d, (pl t).d], DO.lst [(pl t).d, (pl t).d, (pl t).d]]) n (.lst at_new at_new1 rfl (by show 3 < 1000000; omega) (three _)) (by omega)
  refine w_mono same fun y g6 ⟨e, gr6⟩ => ?_
  subst e
  have sxA : Sx z.b g g6 := (((Sx.gr (gr1.trans gr2)).trans sx3).trans (Sx.gr (gr4.trans gr5))).trans ((Sx.gr (Gr.add _ _)).trans (Sx.gr gr6))
  have st6 : Stm z (T + 32) g6 := ((((st3.gr gr4).gr gr5).gr (Gr.add _ _)).gr gr6).up (by omega)
  simp -implicitDefEqProofs
  refine t30_w N hN t hi ns z (T + 32) g6 kn n st6 (by omega) (sxA.at hb hk) hb (by omega) fun g' st' sx' => ?_
  rw [← hQ]
  exact ⟨rfl, st'.up (by omega), sxA.trans sx'⟩
end K74
set_option linter.all false
set_option maxRecDepth 100000
set_option maxHeartbeats 4000000
/-! k74: a condition is right. -/
namespace K74
open PySem PySem.Spec PyProof.Rows L2 PD
@[simp] theorem n31 : f31.N.length = 12 := rfl
def Rall (V : Ex → Prop) (A : List Row) : Prop := ∀ r ∈ A, ∀ p ∈ r, V p.1 ∧ V p.2
section
variable {V C : Ex → Prop} (hV : ∀ a, C a → V (pl a) ∧ V (o1 (pl a)))
include hV
theorem Rall_lots (w : Cw) {a b : Ex} (ha : C a) (hb : C b) : Rall V (lots w (pl a) (pl b)) := by
  have a1 := hV a ha
  have b1 := hV b hb
  cases w <;> intro r hr p hp <;> simp [lots] at hr
  · subst hr; simp at hp; subst hp; exact ⟨a1.2, b1.1⟩
  · subst hr; simp at hp; subst hp; exact ⟨a1.1, b1.1⟩
  · subst hr; simp at hp; rcases hp with rfl | rfl
    · exact ⟨a1.1, b1.1⟩
    · exact ⟨b1.1, a1.1⟩
  · rcases hr with rfl | rfl
    · simp at hp; subst hp; exact ⟨a1.2, b1.1⟩
    · simp at hp; subst hp; exact ⟨b1.2, a1.1⟩
omit hV in
theorem Rall_app {A B : List Row} (a : Rall V A) (b : Rall V B) : Rall V (A ++ B) := fun r hr => (List.mem_append.mp hr).elim (a r) (b r)
omit hV in
theorem Rall_prod {A B : List Row} (a : Rall V A) (b : Rall V B) : Rall V (prod A B) := fun r hr p hp => by
  obtain ⟨x, hx, hr⟩ := List.mem_flatMap.mp hr
  obtain ⟨y, hy, e⟩ := List.mem_map.mp hr
  subst e
  exact (List.mem_append.mp hp).elim (a x hx p) (b y hy p)
theorem Rall_fa : ∀ (c : Co) (so : Bool), c.all C → Rall V (fa c so)
  | .nt c, so, h => Rall_fa c (!so) h
  | .an a b, true, h => Rall_prod (Rall_fa a true h.1) (Rall_fa b true h.2)
  | .an a b, false, h => Rall_app (Rall_fa a false h.1) (Rall_fa b false h.2)
  | .orr a b, true, h => Rall_app (Rall_fa a true h.1) (Rall_fa b true h.2)
  | .orr a b, false, h => Rall_prod (Rall_fa a false h.1) (Rall_fa b false h.2)
  | .cm w a b, true, h => Rall_lots hV w h.1 h.2
  | .cm .lt a b, false, h => Rall_lots hV .le h.2 h.1
  | .cm .le a b, false, h => Rall_lots hV .lt h.2 h.1
  | .cm .eq a b, false, h => Rall_lots hV .ne h.1 h.2
  | .cm .ne a b, false, h => Rall_lots hV .eq h.1 h.2
end
theorem Wo.o {N : List Str} {a : Ex} (h : Ok2 a) (ns : a.ns N) : Wo N (pl a) ∧ Wo N (o1 (pl a)) := by
  refine ⟨Wo.ofp h.inp ns, ?_⟩
  have hd := (rok_lots .lt h h [(o1 (pl a), pl a)] (by simp [lots]) (o1 (pl a), pl a) (by simp)).1.2
  have kb : (Ex.ad (pl a) (.num 1)).kb := ⟨pl_kb a h.inp.kb, trivial⟩
  have a3 : (pl a).mag ≤ a.mag := Nat.le_trans (pf_m (ip a)) (ip_m a h.inp.kb)
  have m := Nat.le_trans (pf_m (ip (.ad (pl a) (.num 1)))) (ip_m _ kb)
  have m1 : (Ex.ad (pl a) (.num 1)).mag = (pl a).mag + 1 := rfl
  have hm := h.mag
  refine ⟨pl_ns N _ ⟨pl_ns N a ns, trivial⟩, pl_kb _ kb, ?_, hd⟩
  show (pf (ip (.ad (pl a) (.num 1)))).mag < 2 ^ 64
  omega
theorem all_bs {k : Nat} {bs : List Bool} {g : G} (hk : g[k]? = some (.lst (bs.map D.bl))) {Q : D → G → Prop} {Ec : Str → Fs → G → Prop} : (bltD .all [.ref k] g).sat Q Ec = Q (.bl (bs.all id)) g := by
  have e : lstD (.ref k) g = some (bs.map D.bl) := by
    show (match g[k]? with
      | some (.lst ds) => some ds
      | _ => none) = _
    rw [hk]
  have e2 : ∀ bs : List Bool, boolsD (bs.map D.bl) = some bs := fun bs => by
    induction bs with
    | nil => rfl
    | cons b bs ih =>
      show (boolsD (bs.map D.bl)).map (b :: ·) = _
      rw [ih]; rfl
  show (ofB (((lstD (.ref k) g).bind boolsD).map fun bs => bs.all id) g).sat Q Ec = _
  rw [e]
  show (ofB ((boolsD (bs.map D.bl)).map fun bs => bs.all id) g).sat Q Ec = _
  rw [e2]; rfl
def heldE : E := (.lc (.blt .all p0 (.cons (.lc (.cmp .LtE (.call 25 PD.e0 p0 (.cons (.var 9 PD.e0 p0) (.cons (.var 6 PD.e0 p0) .nil)) p0) (.call 25 PD.e0 p0 (.cons (.var 10 PD.e0 p0) (.cons (.var 6 PD.e0 p0) .nil)) p0) p0) (.tup [(.name 9 PD.e0 p0), (.name 10 PD.e0 p0)] 0 p0) (.seq (.var 11 PD.e0 p0)) .nil s0 [(PD.e0, 9), (PD.e0, 10)] p0) .nil) p0) (.name 11 PD.e0 p0) (.seq (.var 3 PD.e0 p0)) .nil s0 [(PD.e0, 11)] p0)
theorem held_w (n : Nat) (hn : 46 ≤ n) {N : List Str} {ρ : Str → Int} {A : List Row} (hf : few A 256) (hr : Rall (Wo N) A) (b k m : Nat) (g : G) (al : Al b g k A) (en : Env g m N ρ) {x0 x1 x2 x4 x5 x7 x8 x9 x10 x11 : Option D} {Q : D → G → Prop} {Ec : Str → Fs → G → Prop}
    (hq : ∀ j g', Gr g g' → g'[j]? = some (.lst ((A.map (rw1 ρ)).map D.bl)) → Q (.ref j) g') :
    (ev (runF P.T n) heldE [x0, x1, x2, some (.ref k), x4, x5, some (.ref m), x7, x8, x9, x10, x11] g).sat Q Ec := by
  obtain ⟨_, ks, h3, h4⟩ := al
  have l1 := h4.len
  have b1 := hf.2.1
  unfold heldE
  refine lc_rel (A.zip ks) (fun p => D.ref p.2) (fun p y _ => y = .bl (rw1 ρ p.1)) (fun _ _ _ _ h _ => h) (by simp; omega) (evI_seq (x := .ref k) rfl (seq_ref h3)) (fun i gi gr => ?_) (fun p gi hp gr => ?_) fun out g' gr ho h2 => ?_
  · show (seqD (.ref k) gi).map _ = _
    rw [seq_ref (gr.at h3), zip_snd l1]; rfl
  · refine ⟨[x0, x1, x2, some (.ref k), x4, x5, some (.ref m), x7, x8, x9, x10, some (.ref p.2)], rfl, ?_⟩
    have hrow : gi[p.2]? = some (.lst (p.1.map prE)) := by
      obtain ⟨i, hi, e⟩ := List.mem_iff_getElem.mp hp
      rw [List.length_zip] at hi
      rw [List.getElem_zip] at e
      have := h4.get (i := i) (x := p.1) (y := p.2) (by rw [← e]; exact List.getElem?_eq_getElem (by omega)) (by rw [← e]; exact List.getElem?_eq_getElem (by omega))
      exact gr.at this.1
    have hmem := (List.of_mem_zip hp).1
    have rl := hf.2.2 _ hmem
    rw [PD.R.w, w_blt, wa_cons]
    refine lc_rel p.1 prE (fun q y _ => y = .bl (decide (wv ρ q.1 ≤ wv ρ q.2))) (fun _ _ _ _ h _ => h) (by omega) (evI_seq (x := .ref p.2) rfl (seq_ref hrow)) (fun i gj grj => ?_) (fun q gj hq grj => ?_) fun out g' gr2 ho h2 => ?_
    · show (seqD (.ref p.2) gj).map _ = _
      rw [seq_ref (grj.at hrow)]; rfl
    · refine ⟨[x0, x1, x2, some (.ref k), x4, x5, some (.ref m), x7, x8, some q.1.d, some q.2.d, some (.ref p.2)], rfl, ?_⟩
      have hw := hr _ hmem q hq
      have en2 := en.gr (gr.trans grj)
      have c1 := r25 en2 q.1 n hw.1.ns hw.1.kb hw.1.mag (by have := hw.1.dep; omega)
      have c2 := r25 en2 q.2 n hw.2.ns hw.2.kb hw.2.mag (by have := hw.2.dep; omega)
      simp -implicitDefEqProofs [PD.R.w, c1, c2, ok_w, Gr.refl]
    · have h3' := A2.map_eq (f := fun q : Ex × Ex => D.bl (decide (wv ρ q.1 ≤ wv ρ q.2))) h2
      have h4' : out = (p.1.map fun q => decide (wv ρ q.1 ≤ wv ρ q.2)).map D.bl := by rw [h3', List.map_map]; rfl
      rw [h4'] at ho
      rw [wa_nil, all_bs ho]
      refine ⟨?_, gr2⟩
      congr 1
      unfold rw1
      rw [List.all_map]; rfl
  · have h3' := A2.map_eq (f := fun p : Row × Nat => D.bl (rw1 ρ p.1)) h2
    have a2 := List.map_fst_zip (l₁ := A) (l₂ := ks) (by omega)
    have h4' : out = (A.map (rw1 ρ)).map D.bl := by
      rw [h3']
      conv => rhs; rw [← a2]
      rw [List.map_map, List.map_map]; rfl
    rw [h4'] at ho
    exact hq _ g' gr ho
def s31 : Ss := (.cons (.asg 6 PD.e0 p0 (dicE 7 14 7) p0)
    (.cons
    (.asg 8 PD.e0 p0 heldE p0)
    (.cons
    (.ifs (.cmp .NotEq (.blt .any p0 (.cons (.var 8 PD.e0 p0) .nil) p0) (.call 26 PD.e0 p0 (.cons (.var 1 PD.e0 p0) (.cons (.var 6 PD.e0 p0) .nil)) p0) p0) (.cons
      (.ret (.boo false 0 p0) p0)
      .nil) .nil p0)
    .nil)))
def t31 : Ss := (.cons
  (.forr (.name 5 PD.e0 p0) (.rng1 p0 (.num 4 0 p0) p0) s31 p0)
  (.cons
  (.exp (.mth .append (.idx (.var 4 PD.e0 p0) (.num 0 0 p0) p0) p0 (.cons (.txt "late" 0 p0) .nil) p0) p0)
  (.cons
  (.ret (.call 21 PD.e0 p0 (.cons (.call 17 PD.e0 p0 (.cons (.var 1 PD.e0 p0) .nil) p0) (.cons (.var 3 PD.e0 p0) .nil)) p0) p0)
  .nil)))
theorem b31_eq : b31 = (.cons
  (.asg 3 PD.e0 p0 (.call 29 PD.e0 p0 (.cons (.var 1 PD.e0 p0) (.cons (.boo true 0 p0) .nil)) p0) p0)
  (.cons
  (.asg 4 PD.e0 p0 (.call 17 PD.e0 p0 (.cons (.var 1 PD.e0 p0) .nil) p0) p0)
  (.cons
  (.ifs (.nt (.call 21 PD.e0 p0 (.cons (.lst (.cons (.var 4 PD.e0 p0) (.cons (.callK 17 PD.e0 p0 [] [0] (.cons (.call 22 PD.e0 p0 (.cons (.var 0 PD.e0 p0) (.cons (.var 1 PD.e0 p0) .nil)) p0) .nil) p0) .nil)) p0) (.cons (.lst (.cons (.var 3 PD.e0 p0) (.cons (.var 3 PD.e0 p0) .nil)) p0) .nil)) p0) p0) (.cons
    (.ret (.boo false 0 p0) p0)
    .nil) .nil p0)
  t31))) := rfl
theorem lz_co (g : G) : ∀ c : Co, c.all (fun t => t.dep ≤ 5) → Lz g (c.dep + 5) c.d c.d
  | .cm w a b, h => (lz3 ((lz_d g a).up (h.1)) ((lz_d g b).up h.2)).up (by show 6 ≤ 1 + 5; omega)
  | .nt c, h => (lz2 (lz_co g c h)).up (by show c.dep + 5 + 1 ≤ c.dep + 1 + 5; omega)
  | .an a b, h => (lz3 ((lz_co g a h.1).up (by omega)) ((lz_co g b h.2).up (by omega)) : Lz g (max a.dep b.dep + 5 + 1) _ _).up (by show _ ≤ max a.dep b.dep + 1 + 5; omega)
  | .orr a b, h => (lz3 ((lz_co g a h.1).up (by omega)) ((lz_co g b h.2).up (by omega)) : Lz g (max a.dep b.dep + 5 + 1) _ _).up (by show _ ≤ max a.dep b.dep + 1 + 5; omega)
theorem Pd.up {k j : Nat} {d : D} (h : Pd k d) (hj : k ≤ j) : Pd j d := by
  induction h generalizing j with
  | atom h => exact .atom h
  | @tup k es h _ ih =>
    obtain ⟨m, rfl⟩ : ∃ m, j = m + 1 := ⟨j - 1, by omega⟩
    exact .tup h fun x hx => ih x hx (by omega)
theorem pd_3 {k : Nat} {w : Str} {a b : D} (ha : Pd k a) (hb : Pd k b) : Pd (k + 1) (.tup [.str w, a, b]) := .tup (by show 3 < 1000; omega) fun x hx => by
  simp at hx; rcases hx with rfl | rfl | rfl
  · exact .atom rfl
  · exact ha
  · exact hb
theorem pd_2 {k : Nat} {w : Str} {a : D} (ha : Pd k a) : Pd (k + 1) (.tup [.str w, a]) := .tup (by show 2 < 1000; omega) fun x hx => by
  simp at hx; rcases hx with rfl | rfl
  · exact .atom rfl
  · exact ha
theorem pd_co : ∀ c : Co, c.all (fun t => t.dep ≤ 5) → Pd (c.dep + 5) c.d
  | .cm w a b, h => (pd_3 ((pd_d a).up h.1) ((pd_d b).up h.2)).up (by show 6 ≤ 1 + 5; omega)
  | .nt c, h => (pd_2 (pd_co c h)).up (by show c.dep + 5 + 1 ≤ c.dep + 1 + 5; omega)
  | .an a b, h => (pd_3 ((pd_co a h.1).up (by omega)) ((pd_co b h.2).up (by omega)) : Pd (max a.dep b.dep + 5 + 1) _).up (by show _ ≤ max a.dep b.dep + 1 + 5; omega)
  | .orr a b, h => (pd_3 ((pd_co a h.1).up (by omega)) ((pd_co b h.2).up (by omega)) : Pd (max a.dep b.dep + 5 + 1) _).up (by show _ ≤ max a.dep b.dep + 1 + 5; omega)
theorem tn_co : ∀ c : Co, c.all (fun t => t.dep ≤ 5) → tn c.d + 1 ≤ 64 * 2 ^ c.dep
  | .cm w a b, h => by
    have h1 := tn_d a
    have h2 := tn_d b
    have h3 := p32 h.1
    have h4 := p32 h.2
    show 0 + (tn a.d + (tn b.d + 0)) + 1 + 1 ≤ 64 * 2 ^ 1
    omega
  | .nt c, h => by
    have h1 := tn_co c h
    have h2 := Nat.one_le_two_pow (n := c.dep)
    show 0 + (tn c.d + 0) + 1 + 1 ≤ 64 * 2 ^ (c.dep + 1)
    rw [Nat.pow_succ]; omega
  | .an a b, h => by
    have h1 := tn_co a h.1
    have h2 := tn_co b h.2
    have h3 := pw a.dep b.dep
    show 0 + (tn a.d + (tn b.d + 0)) + 1 + 1 ≤ 64 * 2 ^ (max a.dep b.dep + 1)
    rw [Nat.pow_succ]; omega
  | .orr a b, h => by
    have h1 := tn_co a h.1
    have h2 := tn_co b h.2
    have h3 := pw a.dep b.dep
    show 0 + (tn a.d + (tn b.d + 0)) + 1 + 1 ≤ 64 * 2 ^ (max a.dep b.dep + 1)
    rw [Nat.pow_succ]; omega
end K74
set_option linter.all false
set_option maxRecDepth 100000
set_option maxHeartbeats 4000000
/-! k74: a condition is right, joined. -/
namespace K74
open PySem PySem.Spec PyProof.Rows L2 PD
structure Cok (N : List Str) (c : Co) : Prop where
  ok : c.all Ok2
  ns : c.all (Ex.ns N)
  dep : c.dep ≤ 3
theorem co_and {V W : Ex → Prop} : ∀ c : Co, c.all V → c.all W → c.all fun t => V t ∧ W t
  | .cm _ _ _, h, k => ⟨⟨h.1, k.1⟩, ⟨h.2, k.2⟩⟩
  | .nt c, h, k => co_and c h k
  | .an a b, h, k => ⟨co_and a h.1 k.1, co_and b h.2 k.2⟩
  | .orr a b, h, k => ⟨co_and a h.1 k.1, co_and b h.2 k.2⟩
theorem Cok.d5 {N : List Str} {c : Co} (h : Cok N c) : c.all (fun t => t.dep ≤ 5) := co_all (fun t z => z.inp.dep) c h.ok
theorem t31_w (N : List Str) (hN : Nms N) (c : Co) (hc : Cok N c) (z : Spot) (T : Nat) (gd g : G) (kn k kt n : Nat) (st : Stm z T g) (hT : T + 500 < 2 ^ 39) (hk : g[kn]? = some (.lst (N.map D.str))) (hb : z.b ≤ kn) (hn : 60 ≤ n)
    (due : Al z.b gd k (fa c true)) (sxd : Sx z.b gd g) (hgd : z.b ≤ gd.length) (told : Al gd.length g kt (fa c true)) {x5 x6 x7 x8 x9 x10 x11 : Option D} {Qn : Sl → G → Prop} {Qr : D → G → Prop} {Es : Str → Fs → Sl → G → Prop}
    (hq : ∀ g', Stm z (T + 400) g' → Sx z.b gd g' → Sx z.b gd g' → g.length ≤ g'.length → (∀ i, z.b ≤ i → i < gd.length → g'[i]? = g[i]?) → Qr (.bl true) g') :
    (exes (runF P.T n) t31 [some (.ref z.s), some c.d, some (.ref kn), some (.ref k), some (.ref kt), x5, x6, x7, x8, x9, x10, x11] g).sat Qn Qr Es := by
  have hf := few_3 c true hc.dep
  have hr : Rall (Wo N) (fa c true) := Rall_fa (C := fun t => Ok2 t ∧ t.ns N) (fun a h => Wo.o h.1 h.2) c true (co_and c hc.ok hc.ns)
  have hro : rok (fa c true) := rok_fa c true hc.ok
  have hwo : c.all (Wo N) := co_all (fun t h => Wo.of h.1.inp h.2) c (co_and c hc.ok hc.ns)
  unfold t31
  rw [x_cons, x_rng (by decide)]
  refine for_r (n := 4) (lo := 0) (fun i δ gi => Stm z (T + 100 * i) gi ∧ Sx z.b g gi ∧ ∃ x5 x6 x7 x8 x9 x10 x11, δ = [some (.ref z.s), some c.d, some (.ref kn), some (.ref k), some (.ref kt), x5, x6, x7, x8, x9, x10, x11]) (by omega) (fun i hi δ gi ⟨h1, h2, x5, x6, x7, x8, x9, x10, x11, hδ⟩ => ?_) (fun δ gi ⟨h1, h2, x5, x6, x7, x8, x9, x10, x11, hδ⟩ => ?_) _ g ⟨st, Sx.refl _ _, x5, x6, x7, x8, x9, x10, x11, rfl⟩
  · subst hδ
    refine ⟨[some (.ref z.s), some c.d, some (.ref kn), some (.ref k), some (.ref kt), some (.int (0 + i)), x6, x7, x8, x9, x10, x11], rfl, ?_⟩
    unfold s31
    rw [x_cons, x_asg]
    refine dicE_w n (by omega) 7 (by omega) 14 7 (by omega) (by omega) N hN.len z (T + 100 * i) gi kn h1 (by omega) (h2.at hb hk) hb _ (by simp) rfl rfl fun m g2 ρ st2 sx2 hm en => ?_
    rw [x_cons, x_asg]
    refine held_w n (by omega) hf hr z.b k m g2 (due.sx (sxd.trans (h2.trans sx2))) en fun j g3 gr3 hj => ?_
    rw [x_cons, x_ifs, u_cmp, w_blt, wa_cons, w_var]
    show (bltD .any [.ref j] g3).sat _ _
    rw [any_w hj]
    simp -implicitDefEqProofs only [w_call, wa_cons, wa_nil, w_var, List.set, List.getElem?_cons_succ, List.getElem?_cons_zero, Option.join_some, some_w]
    refine w_mono (r26 c n g3 (en.gr gr3) hwo (by have := hc.dep; omega)) fun y g4 ⟨e, gr4⟩ => ?_
    subst e
    have ev : ((fa c true).map (rw1 ρ)).any id = hv ρ c := by
      rw [List.any_map]
      have := rv_fa ρ c true
      unfold rv at this
      have e2 : ((fa c true).any (id ∘ rw1 ρ)) = (fa c true).any (rw1 ρ) := rfl
      rw [e2, this]
      cases hv ρ c <;> rfl
    rw [ev]
    simp -implicitDefEqProofs
    exact ⟨by rw [show T + 100 * (i + 1) = T + 100 * i + 100 from by omega]; exact (st2.gr gr3).gr gr4, (h2.trans sx2).trans ((Sx.gr gr3).trans (Sx.gr gr4))⟩
  · subst hδ
    have tg : Al gd.length gi kt (fa c true) := told.sx (h2.up hgd)
    obtain ⟨_, ks, h3, h4⟩ := tg
    have l1 := h4.len
    have hne := List.length_pos_iff.mpr hf.1
    cases ks with
    | nil => rw [l1] at hne; exact absurd hne (by simp)
    | cons k0 ks =>
      have h0 : ∃ r0, (fa c true)[0]? = some r0 := ⟨_, List.getElem?_eq_getElem hne⟩
      obtain ⟨r0, h0⟩ := h0
      have hrow := h4.get h0 (show (k0 :: ks)[0]? = some k0 from rfl)
      have rl := hf.2.2 r0 (List.mem_of_getElem? h0)
      have hs := seq_ref h3
      have hlt : (r0.map prE).length < 1000000 := by simp; omega
      generalize hG : gi.set k0 (.lst (r0.map prE ++ [.str "late"])) = gs
      have sx1 : Sx z.b gd gs := by rw [← hG]; exact (sxd.trans h2).set_new _ hrow.2
      have st1 : Stm z (T + 400) gs := by rw [← hG]; exact h1.set _ (Nat.le_trans hgd hrow.2)
      simp -implicitDefEqProofs [at0 (u := .ref k0) (r := ks.map D.ref) hs, isl_ref hrow.1, app_w hrow.1 hlt, hG]
      refine w_mono (r17 c (c.dep + 5) c.d gs n hc.ok hc.dep (lz_co gs c hc.d5) (by have := hc.dep; omega) (by omega)) fun y g2 ⟨j, e, al, gr2⟩ => ?_
      subst e
      have sm := sm_al al (due.sx (sx1.trans (Sx.gr gr2))) hf hro
      refine w_mono (sme 49 _ _ g2 n sm (by omega)) fun y g3 ⟨e, gr3⟩ => ?_
      subst e
      have sx3 := (sx1.trans (Sx.gr gr2)).trans (Sx.gr gr3)
      refine hq g3 ((st1.gr gr2).gr gr3) sx3 sx3 ?_ fun i hi hil => ?_
      · have e1 := h2.len
        have e2 := gr2.len
        have e3 := gr3.len
        have e4 : gs.length = gi.length := by rw [← hG, List.length_set]
        omega
      · rw [sx3.at_ i hi hil, sxd.at_ i hi hil]
theorem r31 (N : List Str) (hN : Nms N) (c : Co) (hc : Cok N c) (z : Spot) (T : Nat) (g : G) (kn n : Nat) (st : Stm z T g) (hT : T + 2000 < 2 ^ 39) (hk : g[kn]? = some (.lst (N.map D.str))) (hb : z.b ≤ kn) (hn : 61 ≤ n) :
    (runF P.T n 31 [.ref z.s, c.d, .ref kn] g).w fun y g' => y = .bl true ∧ Stm z (T + 2000) g' ∧ Sx z.b g g' := by
  obtain ⟨n, rfl⟩ : ∃ j, n = j + 1 := ⟨n - 1, by omega⟩
  rw [run_er (F := f31) rfl e31 rfl, b31_eq]
  have hd := hc.dep
  have hf := few_3 c true hc.dep
  have hro : rok (fa c true) := rok_fa c true hc.ok
  have tb := tn_co c hc.d5
  have p5 : 2 ^ c.dep ≤ 8 := Nat.pow_le_pow_right (n := 2) (by omega) hc.dep
  have bg := st.len
  generalize hQ : (fun (y : D) (g' : G) => y = D.bl true ∧ Stm z (T + 2000) g' ∧ Sx z.b g g') = Q
  simp -implicitDefEqProofs [PD.R.w, fin_w, startD, sizeLine_eq]
  refine w_mono (r29 c true n hc.ok hc.dep (by omega) g) fun y g1 ⟨k, e, al, gr1⟩ => ?_
  subst e
  refine w_mono (r17 c (c.dep + 5) c.d g1 n hc.ok hc.dep (lz_co g1 c hc.d5) (by omega) (by omega)) fun y g2 ⟨kt, e, told, gr2⟩ => ?_
  subst e
  have st2 := st.gr (gr1.trans gr2)
  have c22 := r22 (c.dep + 5) c.d z T g2 (n - (c.dep + 5) - 2) (pd_co c hc.d5) st2 (by omega)
  rw [show n - (c.dep + 5) - 2 + (c.dep + 5) + 2 = n from by omega] at c22
  refine w_mono c22 fun y g3 ⟨lz, st3, sx3⟩ => ?_
  refine w_mono (r17 c (c.dep + 5) y g3 n hc.ok hc.dep lz.lz (by omega) (by omega)) fun y g4 ⟨kl, e, al4, gr4⟩ => ?_
  subst e
  have dueA : Al z.b g1 k (fa c true) := al.low bg
  have hg1 : z.b ≤ g1.length := Nat.le_trans bg gr1.len
  have sx14 : Sx z.b g1 g4 := (Sx.gr gr2).trans (sx3.trans (Sx.gr gr4))
  have due4 := dueA.sx sx14
  have told4 : Al g1.length g4 kt (fa c true) := told.sx ((sx3.up hg1).trans (Sx.gr gr4))
  have two : ∀ (g : G), Gr g4 g → ∀ (i : Nat) (x y : D), ([.ref kt, .ref kl] : List D)[i]? = some x → ([.ref k, .ref k] : List D)[i]? = some y → Sm g 49 x y := fun g gr i x y hx hy => by
    match i, hx, hy with
    | 0, hx, hy => cases hx; cases hy; exact sm_al (told4.gr gr) (due4.gr gr) hf hro
    | 1, hx, hy => cases hx; cases hy; exact sm_al (al4.gr gr) (due4.gr gr) hf hro
  have same := sme 50 (.ref g4.length) (.ref (g4.length + 1)) (g4 ++ [DO.lst [.ref kt, .ref kl], DO.lst [.ref k, .ref k]]) n (.lst at_new at_new1 rfl (by show 2 < 1000000; omega) (two _ (Gr.add _ _))) (by omega)
  refine w_mono same fun y g5 ⟨e, gr5⟩ => ?_
  subst e
  have sxA : Sx z.b g g5 := (Sx.gr gr1).trans (sx14.trans ((Sx.gr (Gr.add _ _)).trans (Sx.gr gr5)))
  have st5 : Stm z (T + 600) g5 := (((st3.gr gr4).gr (Gr.add _ _)).gr gr5).up (by omega)
  simp -implicitDefEqProofs
  refine t31_w N hN c hc z (T + 600) g1 g5 kn k kt n st5 (by omega) (sxA.at hb hk) hb (by omega) dueA (sx14.trans ((Sx.gr (Gr.add _ _)).trans (Sx.gr gr5))) hg1 ((told4.gr (Gr.add _ _)).gr gr5) fun g' st' sx' _ _ _ => ?_
  rw [← hQ]
  exact ⟨rfl, st'.up (by omega), (Sx.gr gr1).trans sx'⟩
end K74
set_option linter.all false
set_option maxRecDepth 100000
set_option maxHeartbeats 4000000
/-! k74: what is refused: the tests say no. -/
namespace K74
open PySem PySem.Spec PyProof.Rows L2 PD
/-- no expression -/
def No5 (m : Nat) (g : G) (d : D) : Prop := ∀ n, m ≤ n → runF P.T n 5 [d] g = .ok (.bl false) g
def No12 (m : Nat) (g : G) (d : D) : Prop := ∀ n, m ≤ n → (runF P.T n 12 [d] g).w fun y g' => y = .bl false ∧ Gr g g'
theorem no5_atom {g : G} {d : D} (h : dIsi d (.tup [.ty "list", .ty "tuple"]) g = some false) : No5 10 g d := by
  intro n hn
  obtain ⟨n, rfl⟩ : ∃ j, n = j + 3 := ⟨n - 3, by omega⟩
  apply eq_of_w
  rw [run_er (F := f5) rfl e5 rfl]
  have a2 := fun x m => r2n n d x m g h
  simp -implicitDefEqProofs [R.w, fin_w, b5, startD, sizeLine_eq, a2, ok_w]
theorem no5_len {g : G} {d : D} {ds : List D} (h : seqD d g = some ds) (h2 : ds.length ≠ 2) (h3 : ds.length ≠ 3) : No5 10 g d := by
  intro n hn
  obtain ⟨n, rfl⟩ : ∃ j, n = j + 3 := ⟨n - 3, by omega⟩
  apply eq_of_w
  rw [run_er (F := f5) rfl e5 rfl]
  have a2 := fun x => r2l n d x g ds 2 h (by rw [beq_eq_false_iff_ne]; omega)
  have a3 := fun x => r2l n d x g ds 3 h (by rw [beq_eq_false_iff_ne]; omega)
  simp -implicitDefEqProofs [R.w, fin_w, b5, startD, sizeLine_eq, a2, a3, ok_w]
theorem no5_1 (g : G) : No5 10 g (.tup [.str "number", .bl true]) := by
  intro n hn
  obtain ⟨n, rfl⟩ : ∃ j, n = j + 3 := ⟨n - 3, by omega⟩
  have hs : seqD (.tup [.str "number", .bl true]) g = some [.str "number", .bl true] := rfl
  apply eq_of_w
  rw [run_er (F := f5) rfl e5 rfl]
  have a2 := fun x hx (m : Int) => r2a n _ g "number" x _ m ok_number hx hs
  have c0 := r0 (n + 1) (.bl true) g true true rfl rfl
  simp -implicitDefEqProofs [R.w, fin_w, b5, startD, sizeLine_eq, a2, i1_ hs, c0, ok_w]
theorem no5_2 (g : G) : No5 10 g (.tup [.str "name", .int 5]) := by
  intro n hn
  obtain ⟨n, rfl⟩ : ∃ j, n = j + 3 := ⟨n - 3, by omega⟩
  have hs : seqD (.tup [.str "name", .int 5]) g = some [.str "name", .int 5] := rfl
  apply eq_of_w
  rw [run_er (F := f5) rfl e5 rfl]
  have a2 := fun x hx (m : Int) => r2a n _ g "name" x _ m ok_name hx hs
  have hi : dIsi (.int 5) (.ty B.str.id) g = some false := rfl
  simp -implicitDefEqProofs [R.w, fin_w, b5, startD, sizeLine_eq, a2, i1_ hs, hi, ok_w]
theorem no5_3 (g : G) : No5 10 g (.tup [.str "times", .int 2]) := by
  intro n hn
  obtain ⟨n, rfl⟩ : ∃ j, n = j + 3 := ⟨n - 3, by omega⟩
  have hs : seqD (.tup [.str "times", .int 2]) g = some [.str "times", .int 2] := rfl
  apply eq_of_w
  rw [run_er (F := f5) rfl e5 rfl]
  have a2 := fun x hx (m : Int) => r2a n _ g "times" x _ m ok_times hx hs
  simp -implicitDefEqProofs [R.w, fin_w, b5, startD, sizeLine_eq, a2, ok_w]
theorem yes5_num (g : G) (i : Int) (n : Nat) (hn : 3 ≤ n) : runF P.T n 5 [.tup [.str "number", .int i]] g = .ok (.bl true) g := by
  obtain ⟨n, rfl⟩ : ∃ j, n = j + 3 := ⟨n - 3, by omega⟩
  exact r5_number n _ g i rfl
theorem no5_4 (g : G) : No5 10 g (.tup [.str "div", .tup [.str "number", .int 1], .int 0]) := by
  intro n hn
  obtain ⟨n, rfl⟩ : ∃ j, n = j + 3 := ⟨n - 3, by omega⟩
  have hs : seqD (.tup [.str "div", .tup [.str "number", .int 1], .int 0]) g = some [.str "div", .tup [.str "number", .int 1], .int 0] := rfl
  apply eq_of_w
  rw [run_er (F := f5) rfl e5 rfl]
  have a2 := fun x hx (m : Int) => r2a n _ g "div" x _ m ok_div hx hs
  have c0 := r0i (n + 1) 0 g
  have c5 := yes5_num g 1 (n + 2) (by omega)
  simp -implicitDefEqProofs [R.w, fin_w, b5, startD, sizeLine_eq, a2, i1_ hs, i2_ hs, c0, c5, ok_w]
theorem no5_5 (g : G) : No5 20 g (.tup [.str "add", .non, .non]) := by
  intro n hn
  obtain ⟨n, rfl⟩ : ∃ j, n = j + 3 := ⟨n - 3, by omega⟩
  have hs : seqD (.tup [.str "add", .non, .non]) g = some [.str "add", .non, .non] := rfl
  apply eq_of_w
  rw [run_er (F := f5) rfl e5 rfl]
  have a2 := fun x hx (m : Int) => r2a n _ g "add" x _ m ok_add hx hs
  have c5 := no5_atom (d := .non) (g := g) rfl (n + 2) (by omega)
  simp -implicitDefEqProofs [R.w, fin_w, b5, startD, sizeLine_eq, a2, i1_ hs, c5, ok_w]
theorem no5_6 (g : G) : No5 10 g (.tup [.str "mod", .tup [.str "name", .str "u0"], .str "2"]) := by
  intro n hn
  obtain ⟨n, rfl⟩ : ∃ j, n = j + 3 := ⟨n - 3, by omega⟩
  have hs : seqD (.tup [.str "mod", .tup [.str "name", .str "u0"], .str "2"]) g = some [.str "mod", .tup [.str "name", .str "u0"], .str "2"] := rfl
  apply eq_of_w
  rw [run_er (F := f5) rfl e5 rfl]
  have a2 := fun x hx (m : Int) => r2a n _ g "mod" x _ m ok_mod hx hs
  have c0 := r0 (n + 1) (.str "2") g false false rfl rfl
  have c5 : runF P.T (n + 2) 5 [.tup [.str "name", .str "u0"]] g = .ok (.bl true) g := by
    have e : n + 2 = (n - 1) + 3 := by omega
    rw [e]
    exact r5_name (n - 1) _ g "u0" rfl
  simp -implicitDefEqProofs [R.w, fin_w, b5, startD, sizeLine_eq, a2, i1_ hs, i2_ hs, c0, c5, ok_w]
theorem no5_7 (g : G) (a b : D) : No5 10 g (.tup [.str "lt", a, b]) := by
  intro n hn
  obtain ⟨n, rfl⟩ : ∃ j, n = j + 3 := ⟨n - 3, by omega⟩
  have hs : seqD (.tup [.str "lt", a, b]) g = some [.str "lt", a, b] := rfl
  apply eq_of_w
  rw [run_er (F := f5) rfl e5 rfl]
  have a2 := fun x hx (m : Int) => r2a n _ g "lt" x _ m ok_lt hx hs
  simp -implicitDefEqProofs [R.w, fin_w, b5, startD, sizeLine_eq, a2, ok_w]
/-! ### no condition -/
theorem e_any (n : Nat) (d : D) (g : G) {x1 : Option D} (f : Str → Bool) (h : ∀ x gi, x ∈ words4 → Gr g gi → runF P.T (n + 2) 2 [d, .str x, .int 3] gi = .ok (.bl (f x)) gi) {Q : Bool → G → Prop} {Ec : Str → Fs → G → Prop}
    (hq : ∀ g', Gr g g' → Q (words4.any f) g') : (evT (runF P.T (n + 2)) cq12 [some d, x1] g).sat Q Ec := by
  simp -implicitDefEqProofs only [cq12, u_blt, wa_cons, wa_nil]
  refine lc_rel words4 D.str (fun x y _ => y = D.bl (f x)) (fun _ _ _ _ h _ => h) (by simp [words4]) (evI_seq (x := .tup (words4.map D.str)) (ds := words4.map D.str) (g1 := g) ?_ rfl) (fun i gi gr => rfl) (fun x gi hx gr => ?_) fun out g' gr ho h2 => ?_
  · apply eq_of_w
    simp -implicitDefEqProofs [PD.R.w, words4, sizeLine_eq]
  · refine ⟨[some d, some (.str x)], rfl, ?_⟩
    have c := h x gi hx gr
    simp -implicitDefEqProofs [PD.R.w, c, ok_w, Gr.refl]
  · have h3 := A2.map_eq (f := fun x => D.bl (f x)) h2
    have h4 : out = (words4.map f).map D.bl := by rw [h3, List.map_map]; rfl
    rw [h4] at ho
    rw [any_w ho]
    simp -implicitDefEqProofs only [truB_w]
    rw [List.any_map]
    exact hq g' gr
theorem isi_gr {g g' : G} (r : Gr g g') {d : D} {b : Bool} (h : dIsi d (.tup [.ty "list", .ty "tuple"]) g = some b) : dIsi d (.tup [.ty "list", .ty "tuple"]) g' = some b := by
  cases d with
  | ref n =>
    unfold dIsi at h ⊢
    have : ∀ t, tyN (.ref n) g = some t → tyN (.ref n) g' = some t := fun t ht => by
      have ht : (match g[n]? with
        | some (.lst _) => some "list"
        | some (.dic _) => some "dict"
        | some (.fdic _) => some "dict"
        | none => none) = some t := ht
      show (match g'[n]? with
        | some (.lst _) => some "list"
        | some (.dic _) => some "dict"
        | some (.fdic _) => some "dict"
        | none => none) = some t
      cases e : g[n]? with
      | none => rw [e] at ht; cases ht
      | some o => rw [r.at e]; rw [e] at ht; exact ht
    cases e : tyN (.ref n) g with
    | none => rw [e] at h; cases h
    | some t => rw [this t e]; rw [e] at h; exact h
  | _ => exact h
theorem no12_atom {g : G} {d : D} (h : dIsi d (.tup [.ty "list", .ty "tuple"]) g = some false) : No12 10 g d := by
  intro n hn
  obtain ⟨n, rfl⟩ : ∃ j, n = j + 3 := ⟨n - 3, by omega⟩
  rw [run_er (F := f12) rfl e12 rfl, b12_eq]
  simp -implicitDefEqProofs only [PD.R.w, fin_w, startD, n12, List.map, List.length, List.replicate, List.cons_append, List.nil_append, x_cons, x_ifs]
  refine e_any n d g (fun _ => false) (fun x gi hx gr => r2n n d _ _ gi (isi_gr gr h)) fun g' gr => ?_
  have a2 := fun x m => r2n n d x m g' (isi_gr gr h)
  simp -implicitDefEqProofs [s12, a2, ok_w, words4]
  exact gr
theorem no12_len {g : G} {d : D} {ds : List D} (h : seqD d g = some ds) (h2 : ds.length ≠ 2) (h3 : ds.length ≠ 3) : No12 10 g d := by
  intro n hn
  obtain ⟨n, rfl⟩ : ∃ j, n = j + 3 := ⟨n - 3, by omega⟩
  rw [run_er (F := f12) rfl e12 rfl, b12_eq]
  simp -implicitDefEqProofs only [PD.R.w, fin_w, startD, n12, List.map, List.length, List.replicate, List.cons_append, List.nil_append, x_cons, x_ifs]
  refine e_any n d g (fun _ => false) (fun x gi hx gr => r2l n d _ gi ds 3 (gr.seq h) (by rw [beq_eq_false_iff_ne]; omega)) fun g' gr => ?_
  have a2 := fun x => r2l n d x g' ds 2 (gr.seq h) (by rw [beq_eq_false_iff_ne]; omega)
  have a3 := fun x => r2l n d x g' ds 3 (gr.seq h) (by rw [beq_eq_false_iff_ne]; omega)
  simp -implicitDefEqProofs [s12, a2, a3, ok_w, words4]
  exact gr
theorem no12_word {g : G} {d : D} {w : Str} {r : List D} (hw : PyData.strOk w = true) (hs : seqD d g = some (.str w :: r)) (h1 : (words4.any fun x => w == x) = false ∨ r.length ≠ 2) (h2 : (w == "and") = false) (h3 : (w == "or") = false) (h4 : (w == "not") = false) : No12 10 g d := by
  intro n hn
  obtain ⟨n, rfl⟩ : ∃ j, n = j + 3 := ⟨n - 3, by omega⟩
  rw [run_er (F := f12) rfl e12 rfl, b12_eq]
  simp -implicitDefEqProofs only [PD.R.w, fin_w, startD, n12, List.map, List.length, List.replicate, List.cons_append, List.nil_append, x_cons, x_ifs]
  refine cq12_w n d g w r hw hs fun g' gr => ?_
  have a2 := fun u hu (m : Int) => r2a n d g' w u _ m hw hu (gr.seq hs)
  have e : ((r.length == 2) && words4.any fun x => w == x) = false := by
    rcases h1 with h | h
    · rw [h, Bool.and_false]
    · rw [beq_eq_false_iff_ne.mpr h, Bool.false_and]
  rw [e]
  simp -implicitDefEqProofs [s12, a2, h2, h3, h4, ok_w]
  exact gr
theorem no12_num (g : G) (i : Int) : No12 10 g (.tup [.str "number", .int i]) := no12_word ok_number rfl (.inl (by decide +kernel)) (by decide +kernel) (by decide +kernel) (by decide +kernel)
theorem no12_not (g : G) : No12 20 g (.tup [.str "not", .tup [.str "number", .int 1]]) := by
  intro n hn
  obtain ⟨n, rfl⟩ : ∃ j, n = j + 3 := ⟨n - 3, by omega⟩
  have hs : seqD (.tup [.str "not", .tup [.str "number", .int 1]]) g = some [.str "not", .tup [.str "number", .int 1]] := rfl
  rw [run_er (F := f12) rfl e12 rfl, b12_eq]
  simp -implicitDefEqProofs only [PD.R.w, fin_w, startD, n12, List.map, List.length, List.replicate, List.cons_append, List.nil_append, x_cons, x_ifs]
  refine cq12_w n _ g "not" _ ok_not hs fun g' gr => ?_
  have hs' := gr.seq hs
  have a2 := fun u hu (m : Int) => r2a n _ g' "not" u _ m ok_not hu hs'
  simp -implicitDefEqProofs [any_not, s12, a2, i1_ hs', ok_w]
  exact w_mono (no12_num g' 1 (n + 2) (by omega)) fun y g2 ⟨e, gr2⟩ => ⟨e, gr.trans gr2⟩
theorem no12_and (g : G) : No12 60 g (.tup [.str "and", .tup [.str "lt", .tup [.str "number", .int 1], .tup [.str "number", .int 1]], .tup [.str "number", .int 1]]) := by
  intro n hn
  obtain ⟨n, rfl⟩ : ∃ j, n = j + 3 := ⟨n - 3, by omega⟩
  have hs : seqD (.tup [.str "and", .tup [.str "lt", .tup [.str "number", .int 1], .tup [.str "number", .int 1]], .tup [.str "number", .int 1]]) g = some [.str "and", .tup [.str "lt", .tup [.str "number", .int 1], .tup [.str "number", .int 1]], .tup [.str "number", .int 1]] := rfl
  rw [run_er (F := f12) rfl e12 rfl, b12_eq]
  simp -implicitDefEqProofs only [PD.R.w, fin_w, startD, n12, List.map, List.length, List.replicate, List.cons_append, List.nil_append, x_cons, x_ifs]
  refine cq12_w n _ g "and" _ ok_and hs fun g' gr => ?_
  have hs' := gr.seq hs
  have a2 := fun u hu (m : Int) => r2a n _ g' "and" u _ m ok_and hu hs'
  simp -implicitDefEqProofs [any_and, s12, a2, i1_ hs', ok_w]
  have c := r12 (.cm .lt (.num 1) (.num 1)) 2 (Co.cm .lt (.num 1) (.num 1)).d g' (n + 2) ⟨⟨trivial, by show 1 ≤ 46; omega⟩, ⟨trivial, by show 1 ≤ 46; omega⟩⟩ (lz3 (lz_d g' (.num 1)) (lz_d g' (.num 1))) (by show 1 + 49 ≤ n + 2; omega)
  refine w_mono c fun y g2 ⟨e, gr2⟩ => ?_
  subst e
  simp -implicitDefEqProofs [i2_ (gr2.seq hs')]
  exact w_mono (no12_num g2 1 (n + 2) (by omega)) fun y g3 ⟨e, gr3⟩ => ⟨e, (gr.trans gr2).trans gr3⟩
theorem no12_ne (g : G) : No12 20 g (.tup [.str "ne", .tup [.str "number", .int 1], .non]) := by
  intro n hn
  obtain ⟨n, rfl⟩ : ∃ j, n = j + 3 := ⟨n - 3, by omega⟩
  have hs : seqD (.tup [.str "ne", .tup [.str "number", .int 1], .non]) g = some [.str "ne", .tup [.str "number", .int 1], .non] := rfl
  rw [run_er (F := f12) rfl e12 rfl, b12_eq]
  simp -implicitDefEqProofs only [PD.R.w, fin_w, startD, n12, List.map, List.length, List.replicate, List.cons_append, List.nil_append, x_cons, x_ifs]
  refine cq12_w n _ g "ne" _ ok_ne hs fun g' gr => ?_
  have hs' := gr.seq hs
  have c1 := yes5_num g' 1 (n + 2) (by omega)
  have c2 := no5_atom (d := .non) (g := g') rfl (n + 2) (by omega)
  have e : (words4.any fun x => ("ne" : Str) == x) = true := by decide +kernel
  simp -implicitDefEqProofs [e, i1_ hs', i2_ hs', c1, c2, ok_w]
  exact gr
end K74
set_option linter.all false
set_option maxRecDepth 100000
set_option maxHeartbeats 4000000
/-! k74: what is refused. -/
namespace K74
open PySem PySem.Spec PyProof.Rows L2 PD
@[simp] theorem n32 : f32.N.length = 5 := rfl
def b32_0 : S := (.asg 0 PD.e0 p0 (.lst (.cons (.non 0 p0) (.cons (.num 5 0 p0) (.cons (.txt "x" 0 p0) (.cons (.tup .nil 0 p0) (.cons (.dct .nil p0) (.cons (.tup (.cons (.txt "number" 0 p0) (.cons (.boo true 0 p0) .nil)) 0 p0) (.cons (.tup (.cons (.txt "name" 0 p0) (.cons (.num 5 0 p0) .nil)) 0 p0) (.cons (.tup (.cons (.txt "times" 0 p0) (.cons (.num 2 0 p0) .nil)) 0 p0) (.cons (.tup (.cons (.txt "div" 0 p0) (.cons (.tup (.cons (.txt "number" 0 p0) (.cons (.num 1 0 p0) .nil)) 0 p0) (.cons (.num 0 0 p0) .nil))) 0 p0) (.cons (.tup (.cons (.txt "add" 0 p0) (.cons (.non 0 p0) (.cons (.non 0 p0) .nil))) 0 p0) .nil)))))))))) p0) p0)
def b32_1 : S := (.forr (.name 1 PD.e0 p0) (.seq (.bin .Add (.var 0 PD.e0 p0) (.lst (.cons (.tup (.cons (.txt "mod" 0 p0) (.cons (.tup (.cons (.txt "name" 0 p0) (.cons (.txt "u0" 0 p0) .nil)) 0 p0) (.cons (.txt "2" 0 p0) .nil))) 0 p0) (.cons (.tup (.cons (.txt "lt" 0 p0) (.cons (.tup (.cons (.txt "number" 0 p0) (.cons (.num 1 0 p0) .nil)) 0 p0) (.cons (.tup (.cons (.txt "number" 0 p0) (.cons (.num 2 0 p0) .nil)) 0 p0) .nil))) 0 p0) (.cons (.lst (.cons (.txt "name" 0 p0) .nil) p0) .nil))) p0) p0)) (.cons (.ifs (.nt (.call 21 PD.e0 p0 (.cons (.met [("BadExpression", "expression", "expression"), ("BadCondition", "condition", "condition")] PD.e0 p0 (.call 11 PD.e0 p0 (.cons (.var 1 PD.e0 p0) .nil) p0) s0 p0 p0) (.cons (.tup (.cons (.txt "expression" 0 p0) (.cons (.var 1 PD.e0 p0) .nil)) 0 p0) .nil)) p0) p0) (.cons (.ret (.boo false 0 p0) p0) .nil) .nil p0) .nil) p0)
def b32_2 : S := (.asg 2 PD.e0 p0 (.tup (.cons (.txt "number" 0 p0) (.cons (.num 1 0 p0) .nil)) 0 p0) p0)
def b32_3 : S := (.forr (.name 1 PD.e0 p0) (.seq (.bin .Add (.var 0 PD.e0 p0) (.lst (.cons (.tup (.cons (.txt "lt" 0 p0) (.cons (.var 2 PD.e0 p0) .nil)) 0 p0) (.cons (.tup (.cons (.txt "and" 0 p0) (.cons (.tup (.cons (.txt "lt" 0 p0) (.cons (.var 2 PD.e0 p0) (.cons (.var 2 PD.e0 p0) .nil))) 0 p0) (.cons (.var 2 PD.e0 p0) .nil))) 0 p0) (.cons (.tup (.cons (.txt "not" 0 p0) (.cons (.var 2 PD.e0 p0) .nil)) 0 p0) (.cons (.tup (.cons (.txt "ne" 0 p0) (.cons (.var 2 PD.e0 p0) (.cons (.non 0 p0) .nil))) 0 p0) (.cons (.var 2 PD.e0 p0) .nil))))) p0) p0)) (.cons (.ifs (.nt (.call 21 PD.e0 p0 (.cons (.met [("BadExpression", "expression", "expression"), ("BadCondition", "condition", "condition")] PD.e0 p0 (.call 17 PD.e0 p0 (.cons (.var 1 PD.e0 p0) .nil) p0) s0 p0 p0) (.cons (.tup (.cons (.txt "condition" 0 p0) (.cons (.var 1 PD.e0 p0) .nil)) 0 p0) .nil)) p0) p0) (.cons (.ret (.boo false 0 p0) p0) .nil) .nil p0) .nil) p0)
def b32_4 : S := (.asg 3 PD.e0 p0 (.lst (.cons (.txt "x" 0 p0) .nil) p0) p0)
def b32_5 : S := (.asg 4 PD.e0 p0 (.lst (.cons (.met [("BadExpression", "expression", "expression"), ("BadCondition", "condition", "condition")] PD.e0 p0 (.call 11 PD.e0 p0 (.cons (.var 3 PD.e0 p0) .nil) p0) s0 p0 p0) (.cons (.call 21 PD.e0 p0 (.cons (.var 3 PD.e0 p0) (.cons (.lst (.cons (.txt "x" 0 p0) .nil) p0) .nil)) p0) .nil)) p0) p0)
def b32_6 : S := (.exp (.mth .append (.var 3 PD.e0 p0) p0 (.cons (.txt "late" 0 p0) .nil) p0) p0)
def b32_7 : S := (.ret (.call 21 PD.e0 p0 (.cons (.var 4 PD.e0 p0) (.cons (.lst (.cons (.tup (.cons (.txt "expression" 0 p0) (.cons (.lst (.cons (.txt "x" 0 p0) (.cons (.txt "late" 0 p0) .nil)) p0) .nil)) 0 p0) (.cons (.boo true 0 p0) .nil)) p0) .nil)) p0) p0)
theorem b32_eq : b32 = (.cons b32_0 (.cons b32_1 (.cons b32_2 (.cons b32_3 (.cons b32_4 (.cons b32_5 (.cons b32_6 (.cons b32_7 .nil)))))))) := rfl
theorem r6x {g : G} {d : D} (n : Nat) (h : No5 20 g d) (hn : 21 ≤ n) {Q : D → G → Prop} {Ec : Str → Fs → G → Prop} : (runF P.T n 6 [d] g).sat Q Ec = Ec "BadExpression" [("expression", d)] g := by
  obtain ⟨n, rfl⟩ : ∃ j, n = j + 1 := ⟨n - 1, by omega⟩
  rw [run_er (F := f6) rfl e6 rfl]
  simp -implicitDefEqProofs [fin_w, b6, startD, h n (by omega), ok_w]
theorem r11x {g : G} {d : D} (n : Nat) (h : No5 20 g d) (hn : 22 ≤ n) {Q : D → G → Prop} {Ec : Str → Fs → G → Prop} : (runF P.T n 11 [d] g).sat Q Ec = Ec "BadExpression" [("expression", d)] g := by
  obtain ⟨n, rfl⟩ : ∃ j, n = j + 1 := ⟨n - 1, by omega⟩
  rw [run_er (F := f11) rfl e11 rfl]
  simp -implicitDefEqProofs [fin_w, b11, startD, r6x n h (by omega), ok_w]
theorem r17x {g : G} {d : D} (n : Nat) (h : No12 60 g d) (hn : 61 ≤ n) {Q : D → G → Prop} {Ec : Str → Fs → G → Prop} (hq : ∀ g', Gr g g' → Ec "BadCondition" [("condition", d)] g') : (runF P.T n 17 [d] g).sat Q Ec := by
  obtain ⟨n, rfl⟩ : ∃ j, n = j + 1 := ⟨n - 1, by omega⟩
  rw [run_er (F := f17) rfl e17 rfl]
  simp -implicitDefEqProofs [fin_w, b17, startD]
  refine w_mono (h n (by omega)) fun y g' ⟨e, gr⟩ => ?_
  subst e
  simp -implicitDefEqProofs
  exact hq g' gr
theorem met_w {cl : Nat → List D → G → PD.R D} {δ : Sl} {g : G} {hs : List (Str × Str × Str)} {x : Str} {px lpos p : Pos} {body : E} {scope : Scope} {Q : D → G → Prop} {Ec : Str → Fs → G → Prop}
    (h : (ev cl body δ g).sat (fun _ _ => False) fun c fs g' => ∃ tag fld d, hs.lookup c = some (tag, fld) ∧ fs.lookup fld = some d ∧ Q (.tup [.str tag, d]) g') : (ev cl (.met hs x px body scope lpos p) δ g).sat Q Ec := by
  show (metD hs (ev cl body δ g)).sat Q Ec
  cases e : ev cl body δ g with
  | ok a g' => rw [e] at h; exact absurd h id
  | bad => rw [e] at h; exact absurd h id
  | ex c fs g' =>
    rw [e] at h
    obtain ⟨tag, fld, d, h1, h2, h3⟩ := h
    show (match hs.lookup c with
      | some (tag, fld) => (match fs.lookup fld with
        | some d => PD.R.ok (D.tup [.str tag, d]) g'
        | none => .bad)
      | none => .bad).sat Q Ec
    rw [h1]
    show (match fs.lookup fld with
        | some d => PD.R.ok (D.tup [.str tag, d]) g'
        | none => .bad).sat Q Ec
    rw [h2]
    exact h3
theorem lk_e : mKeys.lookup ("BadExpression" : Str) = some (("expression" : Str), ("expression" : Str)) := by decide +kernel
theorem lk_c : mKeys.lookup ("BadCondition" : Str) = some (("condition" : Str), ("condition" : Str)) := by decide +kernel
theorem lf_e (d : D) : (([("expression", d)] : Fs).lookup ("expression" : Str)) = some d := by kernel_rfl
theorem lf_c (d : D) : (([("condition", d)] : Fs).lookup ("condition" : Str)) = some d := by kernel_rfl
/-- the empty dict, frozen or not -/
def DE (m : Nat) (g : G) : Prop := g[m]? = some (.dic []) ∨ g[m]? = some (.fdic [])
theorem DE.gr {m : Nat} {g g' : G} (h : DE m g) (r : Gr g g') : DE m g' := h.elim (fun z => .inl (r.at z)) fun z => .inr (r.at z)
theorem DE.lt {m : Nat} {g : G} (h : DE m g) : m < g.length := h.elim (fun z => (List.getElem?_eq_some_iff.mp z).1) fun z => (List.getElem?_eq_some_iff.mp z).1
theorem DE.set {m : Nat} {g : G} (h : DE m g) {k : Nat} (o : DO) (hk : k ≠ m) : DE m (g.set k o) := by
  unfold DE
  rw [List.getElem?_set_ne hk]; exact h
theorem Kp.set_new {m k : Nat} {g g' : G} (h : Kp m g g') (o : DO) (hk : g.length ≤ k) : Kp m g (g'.set k o) := ⟨by rw [List.length_set]; exact h.len, fun i h1 h2 => by rw [List.getElem?_set_ne (by omega)]; exact h.at_ i h1 h2⟩
def OkS (n m : Nat) (g : G) (x : D) : Prop := ∀ g', Kp m g g' → DE m g' → (runF P.T n 21 [x, x] g').w fun y g2 => y = .bl true ∧ Kp m g' g2 ∧ DE m g2
theorem same_dict (n m : Nat) (g : G) (h : DE m g) : (runF P.T (n + 1) 21 [.ref m, .ref m] g).w fun y g2 => y = .bl true ∧ Kp m g g2 ∧ DE m g2 := by
  rw [run_er (F := f21) rfl (e21.trans (show b21 = bSame 21 from rfl)) rfl]
  have ty : tyN (.ref m) g = some "dict" := by
    show (match g[m]? with
      | some (.lst _) => some "list"
      | some (.dic _) => some "dict"
      | some (.fdic _) => some "dict"
      | none => none) = _
    rcases h with h | h <;> rw [h]
  have a1 : dIsi (.ref m) (.tup [.ty B.list.id, .ty B.tuple.id]) g = some false := by unfold dIsi; rw [ty]; rfl
  have a2 : dIsi (.ref m) (.ty B.dict.id) g = some true := by unfold dIsi; rw [ty]; rfl
  have ln : ∀ {Q : D → G → Prop} {Ec : Str → Fs → G → Prop}, (bltD .len [.ref m] g).sat Q Ec = Q (.int 0) g := fun {Q Ec} => by
    show (lenR (.ref m) g).sat Q Ec = _
    have l1 : lenD (.ref m) g = none := by
      show (match g[m]? with
        | some (.lst ds) => some ds.length
        | _ => none) = _
      rcases h with h | h <;> rw [h]
    have l2 : dicF (.ref m) g = some [] := by
      show (match g[m]? with
        | some (.dic kvs) => some kvs
        | some (.fdic kvs) => some kvs
        | _ => none) = _
      rcases h with h | h <;> rw [h]
    unfold lenR
    rw [l1]
    show (match dicF (.ref m) g with
      | some kvs => PD.R.ok (D.int kvs.length) g
      | none => .bad).sat Q Ec = _
    rw [l2]; rfl
  obtain ⟨g1, hk, hd, hkp⟩ : ∃ g1, keyW (.ref m) g = .ok (wkKey m) g1 ∧ g1[m]? = some (.fdic []) ∧ Kp m g g1 := by
    rcases h with h | h
    · refine ⟨g.set m (.fdic []), ?_, List.getElem?_set_self (List.getElem?_eq_some_iff.mp h).1, Kp.set _ _ _⟩
      show (match g[m]? with
        | some (.dic kvs) => PD.R.ok (wkKey m) (g.set m (.fdic kvs))
        | some (.fdic _) => .ok (wkKey m) g
        | _ => .bad) = _
      rw [h]
    · refine ⟨g, ?_, h, Kp.gr (Gr.refl g)⟩
      show (match g[m]? with
        | some (.dic kvs) => PD.R.ok (wkKey m) (g.set m (.fdic kvs))
        | some (.fdic _) => .ok (wkKey m) g
        | _ => .bad) = _
      rw [h]
  have sq : seqD (.ref m) g = none := by
    show (match g[m]? with
      | some (.lst ds) => some ds
      | _ => none) = _
    rcases h with h | h <;> rw [h]
  simp -implicitDefEqProofs [PD.R.w, fin_w, startD, bSame, sizeLine_eq, a1, a2, ln]
  refine lc_inv (β := Nat) [] (fun _ => .non) (fun i acc gi => acc = [] ∧ gi = g1 ++ [DO.lst []]) (by simp) (w := wkKey m) (g1 := g1) ?_ (fun i acc gi ⟨e1, e2⟩ => ?_) ⟨rfl, rfl⟩ (fun i hi => absurd hi (by simp)) fun acc g' ⟨e1, e2⟩ => ?_
  · show (match seqD (.ref m) g with
      | some _ => PD.R.ok (wkSeq (.ref m)) g
      | none => keyW (.ref m) g) = _
    rw [sq]; exact hk
  · subst e1; subst e2
    refine ⟨?_, at_new, by simp⟩
    show (match (g1 ++ [DO.lst []])[m]? with
      | some (.fdic kvs) => some (kvs[i]?.map fun p : Key × D => keyV p.1)
      | _ => none) = _
    rw [at_old hd]
    simp
  · subst e2
    rw [all_w (out := []) at_new (fun y hy => absurd hy (by simp))]
    exact ⟨rfl, hkp.trans (Kp.gr (Gr.add _ _)), .inr (at_old hd)⟩
theorem okS_dict (n m : Nat) (g : G) (hn : 1 ≤ n) : OkS n m g (.ref m) := fun g' _ hd => by
  obtain ⟨n, rfl⟩ : ∃ j, n = j + 1 := ⟨n - 1, by omega⟩
  exact same_dict n m g' hd
theorem okS_sm (n m : Nat) (g : G) (x : D) (k : Nat) (hk : k + 1 ≤ n) (h : ∀ g', Kp m g g' → Sm g' k x x) : OkS n m g x := fun g' kp hd =>
  w_mono (sme k x x g' n (h g' kp) hk) fun y g2 ⟨e, gr⟩ => ⟨e, Kp.gr gr, hd.gr gr⟩
/-- a pair of a word and a thing, against itself -/
theorem same_pair (n m : Nat) (g : G) (w : Str) (x : D) (hw : PyData.strOk w = true) (hx : OkS (n + 1) m g x) (hd : DE m g) : (runF P.T (n + 2) 21 [.tup [.str w, x], .tup [.str w, x]] g).w fun y g2 => y = .bl true ∧ Kp m g g2 ∧ DE m g2 := by
  rw [show n + 2 = (n + 1) + 1 from rfl, run_er (F := f21) rfl (e21.trans (show b21 = bSame 21 from rfl)) rfl]
  have a1 : dIsi (.tup [.str w, x]) (.tup [.ty B.list.id, .ty B.tuple.id]) g = some true := rfl
  have a2 : dIsi (.tup [.str w, x]) (.ty B.list.id) g = some false := rfl
  have a4 : dIsi (.tup [.str w, x]) (.ty B.tuple.id) g = some true := rfl
  have hml := hd.lt
  simp -implicitDefEqProofs [PD.R.w, fin_w, startD, bSame, sizeLine_eq, a1, a2, a4, lens (show seqD (.tup [.str w, x]) g = some [.str w, x] from rfl)]
  refine lc_inv (β := D × D) (([.str w, x] : List D).zip [.str w, x]) (fun p : D × D => D.tup [p.1, p.2]) (fun i acc gi => acc.length = i ∧ (∀ y ∈ acc, y = D.bl true) ∧ gi[g.length]? = some (.lst acc) ∧ Kp m g gi ∧ DE m gi) (by simp) (evI_zip (q := ([.str w, x], [.str w, x])) rfl rfl rfl) (fun i acc gi ⟨h1, h2, h3, h4, h5⟩ => ⟨by rw [← zipAt_eq]; rfl, h3, by omega⟩) ⟨rfl, fun y hy => absurd hy (by simp), at_new, Kp.gr (Gr.add _ _), hd.gr (Gr.add _ _)⟩ (fun i hi acc gi ⟨h1, h2, h3, h4, h5⟩ => ?_) fun acc g' ⟨h1, h2, h3, h4, h5⟩ => ?_
  · have hone : ∀ u : D, OkS (n + 1) m g u → (runF P.T (n + 1) 21 [u, u] gi).w fun y g3 => g3[g.length]? = some (.lst acc) ∧ ((acc ++ [y]).length = i + 1 ∧ (∀ z ∈ acc ++ [y], z = D.bl true) ∧ (g3.set g.length (.lst (acc ++ [y])))[g.length]? = some (.lst (acc ++ [y])) ∧ Kp m g (g3.set g.length (.lst (acc ++ [y]))) ∧ DE m (g3.set g.length (.lst (acc ++ [y])))) := fun u hu =>
      w_mono (hu gi h4 h5) fun y g3 ⟨e, kp, de⟩ => by
        have hk3 := kp.at (show g.length ≠ m by omega) h3
        refine ⟨hk3, by simp [h1], fun z hz => ?_, Gr.set_at (List.getElem?_eq_some_iff.mp hk3).1, Kp.set_new (h4.trans kp) _ (Nat.le_refl _), de.set _ (by omega)⟩
        rcases List.mem_append.mp hz with q | q
        · exact h2 z q
        · rw [List.mem_singleton.mp q]; exact e
    have hi : i < 2 := hi
    rcases (by omega : i = 0 ∨ i = 1) with rfl | rfl
    · refine ⟨[some (.tup [.str w, x]), some (.tup [.str w, x]), some (.str w), some (.str w), none], rfl, ?_⟩
      simp -implicitDefEqProofs only [PD.R.w, uf_nil, if_true, w_call, wa_cons, wa_nil, w_var, List.getElem?_cons_succ, List.getElem?_cons_zero, Option.join_some, some_w]
      exact hone (.str w) (okS_sm (n + 1) m g _ 0 (by omega) fun _ _ => .str hw)
    · refine ⟨[some (.tup [.str w, x]), some (.tup [.str w, x]), some x, some x, none], rfl, ?_⟩
      simp -implicitDefEqProofs only [PD.R.w, uf_nil, if_true, w_call, wa_cons, wa_nil, w_var, List.getElem?_cons_succ, List.getElem?_cons_zero, Option.join_some, some_w]
      exact hone x hx
  · rw [all_w h3 h2]
    exact ⟨rfl, h4, h5⟩
end K74
set_option linter.all false
set_option maxRecDepth 100000
set_option maxHeartbeats 4000000
/-! k74: what is refused, joined. -/
namespace K74
open PySem PySem.Spec PyProof.Rows L2 PD
def sE : Ss := (.cons (.ifs (.nt (.call 21 PD.e0 p0 (.cons (.met mKeys PD.e0 p0 (.call 11 PD.e0 p0 (.cons (.var 1 PD.e0 p0) .nil) p0) s0 p0 p0) (.cons (.tup (.cons (.txt "expression" 0 p0) (.cons (.var 1 PD.e0 p0) .nil)) 0 p0) .nil)) p0) p0) (.cons (.ret (.boo false 0 p0) p0) .nil) .nil p0) .nil)
def sC : Ss := (.cons (.ifs (.nt (.call 21 PD.e0 p0 (.cons (.met mKeys PD.e0 p0 (.call 17 PD.e0 p0 (.cons (.var 1 PD.e0 p0) .nil) p0) s0 p0 p0) (.cons (.tup (.cons (.txt "condition" 0 p0) (.cons (.var 1 PD.e0 p0) .nil)) 0 p0) .nil)) p0) p0) (.cons (.ret (.boo false 0 p0) p0) .nil) .nil p0) .nil)
def it1 : E := (.bin .Add (.var 0 PD.e0 p0) (.lst (.cons (.tup (.cons (.txt "mod" 0 p0) (.cons (.tup (.cons (.txt "name" 0 p0) (.cons (.txt "u0" 0 p0) .nil)) 0 p0) (.cons (.txt "2" 0 p0) .nil))) 0 p0) (.cons (.tup (.cons (.txt "lt" 0 p0) (.cons (.tup (.cons (.txt "number" 0 p0) (.cons (.num 1 0 p0) .nil)) 0 p0) (.cons (.tup (.cons (.txt "number" 0 p0) (.cons (.num 2 0 p0) .nil)) 0 p0) .nil))) 0 p0) (.cons (.lst (.cons (.txt "name" 0 p0) .nil) p0) .nil))) p0) p0)
def it2 : E := (.bin .Add (.var 0 PD.e0 p0) (.lst (.cons (.tup (.cons (.txt "lt" 0 p0) (.cons (.var 2 PD.e0 p0) .nil)) 0 p0) (.cons (.tup (.cons (.txt "and" 0 p0) (.cons (.tup (.cons (.txt "lt" 0 p0) (.cons (.var 2 PD.e0 p0) (.cons (.var 2 PD.e0 p0) .nil))) 0 p0) (.cons (.var 2 PD.e0 p0) .nil))) 0 p0) (.cons (.tup (.cons (.txt "not" 0 p0) (.cons (.var 2 PD.e0 p0) .nil)) 0 p0) (.cons (.tup (.cons (.txt "ne" 0 p0) (.cons (.var 2 PD.e0 p0) (.cons (.non 0 p0) .nil))) 0 p0) (.cons (.var 2 PD.e0 p0) .nil))))) p0) p0)
theorem b1_eq : b32_1 = .forr (.name 1 PD.e0 p0) (.seq it1) sE p0 := rfl
theorem b3_eq : b32_3 = .forr (.name 1 PD.e0 p0) (.seq it2) sC p0 := rfl
abbrev nu1 : D := .tup [.str "number", .int 1]
abbrev odds (m : Nat) : List D := [.non, .int 5, .str "x", .tup [], .ref m, .tup [.str "number", .bl true], .tup [.str "name", .int 5], .tup [.str "times", .int 2], .tup [.str "div", nu1, .int 0], .tup [.str "add", .non, .non]]
abbrev ex1 (l : Nat) : List D := [.tup [.str "mod", .tup [.str "name", .str "u0"], .str "2"], .tup [.str "lt", nu1, .tup [.str "number", .int 2]], .ref l]
abbrev ex2 : List D := [.tup [.str "lt", nu1], .tup [.str "and", .tup [.str "lt", nu1, nu1], nu1], .tup [.str "not", nu1], .tup [.str "ne", nu1, .non], nu1]
section
variable {x0 x2 x3 x4 : Option D} {Qn : Sl → G → Prop} {Qr : D → G → Prop} {Es : Str → Fs → Sl → G → Prop}
theorem ok_expr : PyData.strOk "expression" = true := by decide +kernel
theorem ok_cond : PyData.strOk "condition" = true := by decide +kernel
theorem sE_w (n m : Nat) (hn : 30 ≤ n) (x : D) (g : G) (h : No5 20 g x) (hx : OkS (n - 1) m g x) (hd : DE m g) (hq : ∀ g', Kp m g g' → DE m g' → Qn [x0, some x, x2, x3, x4] g') : (exes (runF P.T n) sE [x0, some x, x2, x3, x4] g).sat Qn Qr Es := by
  obtain ⟨n, rfl⟩ : ∃ j, n = j + 2 := ⟨n - 2, by omega⟩
  unfold sE
  rw [x_cons, x_ifs, u_nt, u_call, wa_cons]
  refine met_w ?_
  simp -implicitDefEqProofs only [w_call, wa_cons, wa_nil, w_var, List.getElem?_cons_succ, List.getElem?_cons_zero, Option.join_some, some_w, r11x (n + 2) h (by omega)]
  refine ⟨"expression", "expression", x, lk_e, lf_e x, ?_⟩
  simp -implicitDefEqProofs only [w_tup, wa_cons, wa_nil, w_txt, w_var, List.getElem?_cons_succ, List.getElem?_cons_zero, Option.join_some, some_w, List.length_cons, List.length_nil]
  rw [if_pos (by rw [sizeLine_eq]; omega)]
  refine w_mono (same_pair n m g "expression" x ok_expr hx hd) fun y g2 ⟨e, kp, de⟩ => ?_
  subst e
  simp -implicitDefEqProofs
  exact hq g2 kp de
theorem sC_w (n m : Nat) (hn : 65 ≤ n) (x : D) (g : G) (h : No12 60 g x) (hx : ∀ g', Gr g g' → OkS (n - 1) m g' x) (hd : DE m g) (hq : ∀ g', Kp m g g' → DE m g' → Qn [x0, some x, x2, x3, x4] g') : (exes (runF P.T n) sC [x0, some x, x2, x3, x4] g).sat Qn Qr Es := by
  obtain ⟨n, rfl⟩ : ∃ j, n = j + 2 := ⟨n - 2, by omega⟩
  unfold sC
  rw [x_cons, x_ifs, u_nt, u_call, wa_cons]
  refine met_w ?_
  simp -implicitDefEqProofs only [w_call, wa_cons, wa_nil, w_var, List.getElem?_cons_succ, List.getElem?_cons_zero, Option.join_some, some_w]
  refine r17x (n + 2) h (by omega) fun g1 gr => ?_
  refine ⟨"condition", "condition", x, lk_c, lf_c x, ?_⟩
  simp -implicitDefEqProofs only [w_tup, wa_cons, wa_nil, w_txt, w_var, List.getElem?_cons_succ, List.getElem?_cons_zero, Option.join_some, some_w, List.length_cons, List.length_nil]
  rw [if_pos (by rw [sizeLine_eq]; omega)]
  refine w_mono (same_pair n m g1 "condition" x ok_cond (hx g1 gr) (hd.gr gr)) fun y g2 ⟨e, kp, de⟩ => ?_
  subst e
  simp -implicitDefEqProofs
  exact hq g2 ((Kp.gr gr).trans kp) de
end
theorem sm_tt {g : G} {k : Nat} {ds : List D} (hl : ds.length < 1000) (h : ∀ x ∈ ds, Sm g k x x) : Sm g (k + 1) (.tup ds) (.tup ds) := .tup rfl (by omega) fun i x y hx hy => by
  rw [hx] at hy; cases hy
  exact h x (List.mem_of_getElem? hx)
theorem sm_ll {g : G} {k l : Nat} {ds : List D} (hl : ds.length < 1000) (hg : g[l]? = some (.lst ds)) (h : ∀ x ∈ ds, Sm g k x x) : Sm g (k + 1) (.ref l) (.ref l) := .lst hg hg rfl (by omega) fun i x y hx hy => by
  rw [hx] at hy; cases hy
  exact h x (List.mem_of_getElem? hx)
theorem ok_x : PyData.strOk "x" = true := by decide +kernel
theorem ok_u0 : PyData.strOk "u0" = true := by decide +kernel
theorem ok_2 : PyData.strOk "2" = true := by decide +kernel
theorem ok_late : PyData.strOk "late" = true := by decide +kernel
theorem sm_nu (g : G) (i : Int) : Sm g 1 (.tup [.str "number", .int i]) (.tup [.str "number", .int i]) := sm_tt (by simp) fun x hx => by
  simp at hx; rcases hx with rfl | rfl
  · exact .str ok_number
  · exact .int
theorem DE.isi {m : Nat} {g : G} (h : DE m g) : dIsi (.ref m) (.tup [.ty "list", .ty "tuple"]) g = some false := by
  have ty : tyN (.ref m) g = some "dict" := by
    show (match g[m]? with
      | some (.lst _) => some "list"
      | some (.dic _) => some "dict"
      | some (.fdic _) => some "dict"
      | none => none) = _
    rcases h with h | h <;> rw [h]
  unfold dIsi; rw [ty]; rfl
theorem odds_S (n m : Nat) (hn : 10 ≤ n) (g : G) (x : D) (hx : x ∈ odds m) : OkS n m g x := by
  simp only [odds, List.mem_cons, List.not_mem_nil, or_false] at hx
  rcases hx with rfl | rfl | rfl | rfl | rfl | rfl | rfl | rfl | rfl | rfl
  · exact okS_sm n m g _ 0 (by omega) fun _ _ => .non
  · exact okS_sm n m g _ 0 (by omega) fun _ _ => .int
  · exact okS_sm n m g _ 0 (by omega) fun _ _ => .str ok_x
  · exact okS_sm n m g _ 1 (by omega) fun _ _ => sm_tt (by simp) fun x hx => absurd hx (by simp)
  · exact okS_dict n m g (by omega)
  · exact okS_sm n m g _ 1 (by omega) fun g _ => sm_tt (by simp) fun x hx => by
      simp at hx; rcases hx with rfl | rfl
      · exact .str ok_number
      · exact .bl
  · exact okS_sm n m g _ 1 (by omega) fun g _ => sm_tt (by simp) fun x hx => by
      simp at hx; rcases hx with rfl | rfl
      · exact .str ok_name
      · exact .int
  · exact okS_sm n m g _ 1 (by omega) fun g _ => sm_tt (by simp) fun x hx => by
      simp at hx; rcases hx with rfl | rfl
      · exact .str ok_times
      · exact .int
  · exact okS_sm n m g _ 2 (by omega) fun g _ => sm_tt (by simp) fun x hx => by
      simp at hx; rcases hx with rfl | rfl | rfl
      · exact .str ok_div
      · exact sm_nu g 1
      · exact .int
  · exact okS_sm n m g _ 1 (by omega) fun g _ => sm_tt (by simp) fun x hx => by
      simp at hx; rcases hx with rfl | rfl
      · exact .str ok_add
      · exact .non
theorem odds_5 (m : Nat) (g : G) (hd : DE m g) (x : D) (hx : x ∈ odds m) : No5 20 g x := by
  have up : ∀ {x}, No5 10 g x → No5 20 g x := fun h n hn => h n (by omega)
  simp only [odds, List.mem_cons, List.not_mem_nil, or_false] at hx
  rcases hx with rfl | rfl | rfl | rfl | rfl | rfl | rfl | rfl | rfl | rfl
  · exact up (no5_atom rfl)
  · exact up (no5_atom rfl)
  · exact up (no5_atom rfl)
  · exact up (no5_len (ds := []) rfl (by simp) (by simp))
  · exact up (no5_atom hd.isi)
  · exact up (no5_1 g)
  · exact up (no5_2 g)
  · exact up (no5_3 g)
  · exact up (no5_4 g)
  · exact no5_5 g
theorem w4 (w : Str) (h : (words4.any fun x => w == x) = false) : (words4.any fun x => w == x) = false := h
theorem odds_12 (m : Nat) (g : G) (hd : DE m g) (x : D) (hx : x ∈ odds m) : No12 60 g x := by
  have up : ∀ {x}, No12 10 g x → No12 60 g x := fun h n hn => h n (by omega)
  simp only [odds, List.mem_cons, List.not_mem_nil, or_false] at hx
  rcases hx with rfl | rfl | rfl | rfl | rfl | rfl | rfl | rfl | rfl | rfl
  · exact up (no12_atom rfl)
  · exact up (no12_atom rfl)
  · exact up (no12_atom rfl)
  · exact up (no12_len (ds := []) rfl (by simp) (by simp))
  · exact up (no12_atom hd.isi)
  · exact up (no12_word ok_number rfl (.inl (by decide +kernel)) (by decide +kernel) (by decide +kernel) (by decide +kernel))
  · exact up (no12_word ok_name rfl (.inl (by decide +kernel)) (by decide +kernel) (by decide +kernel) (by decide +kernel))
  · exact up (no12_word ok_times rfl (.inl (by decide +kernel)) (by decide +kernel) (by decide +kernel) (by decide +kernel))
  · exact up (no12_word ok_div rfl (.inl (by decide +kernel)) (by decide +kernel) (by decide +kernel) (by decide +kernel))
  · exact up (no12_word ok_add rfl (.inl (by decide +kernel)) (by decide +kernel) (by decide +kernel) (by decide +kernel))
theorem ex1_all (n m l : Nat) (hn : 10 ≤ n) (g : G) (hl : g[l]? = some (.lst [.str "name"])) (hlm : l ≠ m) (x : D) (hx : x ∈ ex1 l) : No5 20 g x ∧ OkS n m g x := by
  have up : ∀ {x}, No5 10 g x → No5 20 g x := fun h n hn => h n (by omega)
  simp only [ex1, List.mem_cons, List.not_mem_nil, or_false] at hx
  rcases hx with rfl | rfl | rfl
  · refine ⟨up (no5_6 g), okS_sm n m g _ 2 (by omega) fun g _ => sm_tt (by simp) fun x hx => ?_⟩
    simp at hx; rcases hx with rfl | rfl | rfl
    · exact .str ok_mod
    · exact sm_tt (by simp) fun x hx => by
        simp at hx; rcases hx with rfl | rfl
        · exact .str ok_name
        · exact .str ok_u0
    · exact .str ok_2
  · refine ⟨up (no5_7 g _ _), okS_sm n m g _ 2 (by omega) fun g _ => sm_tt (by simp) fun x hx => ?_⟩
    simp at hx; rcases hx with rfl | rfl | rfl
    · exact .str ok_lt
    · exact sm_nu g 1
    · exact sm_nu g 2
  · refine ⟨up (no5_len (seq_ref hl) (by simp) (by simp)), okS_sm n m g _ 1 (by omega) fun g' kp => sm_ll (by simp) (kp.at hlm hl) fun x hx => ?_⟩
    simp at hx; subst hx
    exact .str ok_name
theorem ex2_all (n m : Nat) (hn : 10 ≤ n) (g : G) (x : D) (hx : x ∈ ex2) : No12 60 g x ∧ OkS n m g x := by
  have up : ∀ {k : Nat} {x}, k ≤ 60 → No12 k g x → No12 60 g x := fun hk h n hn => h n (by omega)
  simp only [ex2, List.mem_cons, List.not_mem_nil, or_false] at hx
  rcases hx with rfl | rfl | rfl | rfl | rfl
  · refine ⟨up (k := 10) (by omega) (no12_word ok_lt rfl (.inr (by simp)) (by decide +kernel) (by decide +kernel) (by decide +kernel)), okS_sm n m g _ 2 (by omega) fun g _ => sm_tt (by simp) fun x hx => ?_⟩
    simp at hx; rcases hx with rfl | rfl
    · exact .str ok_lt
    · exact sm_nu g 1
  · refine ⟨no12_and g, okS_sm n m g _ 3 (by omega) fun g _ => sm_tt (by simp) fun x hx => ?_⟩
    simp at hx; rcases hx with rfl | rfl | rfl
    · exact .str ok_and
    · exact sm_tt (by simp) fun x hx => by
        simp at hx; rcases hx with rfl | rfl
        · exact .str ok_lt
        · exact sm_nu g 1
    · exact (sm_nu g 1).up (by omega)
  · refine ⟨up (k := 20) (by omega) (no12_not g), okS_sm n m g _ 2 (by omega) fun g _ => sm_tt (by simp) fun x hx => ?_⟩
    simp at hx; rcases hx with rfl | rfl
    · exact .str ok_not
    · exact sm_nu g 1
  · refine ⟨up (k := 20) (by omega) (no12_ne g), okS_sm n m g _ 2 (by omega) fun g _ => sm_tt (by simp) fun x hx => ?_⟩
    simp at hx; rcases hx with rfl | rfl | rfl
    · exact .str ok_ne
    · exact sm_nu g 1
    · exact .non
  · exact ⟨up (k := 10) (by omega) (no12_num g 1), okS_sm n m g _ 1 (by omega) fun g _ => sm_nu g 1⟩
end K74
set_option linter.all false
set_option maxRecDepth 100000
set_option maxHeartbeats 4000000
/-! k74: what is refused, the whole def. -/
namespace K74
open PySem PySem.Spec PyProof.Rows L2 PD
theorem at_app {g t : G} (k : Nat) : (g ++ t)[g.length + k]? = t[k]? := by
  rw [List.getElem?_append_right (by omega)]; congr 1; omega
theorem dct0 {g : G} {Q : D → G → Prop} {Ec : Str → Fs → G → Prop} : (fillD g.length [] (g ++ [DO.dic []])).sat Q Ec = Q (.ref g.length) (g ++ [DO.dic []]) := by
  unfold fillD
  rw [at_new]
  show Q (.ref g.length) ((g ++ [DO.dic []]).set g.length (DO.dic (mergeD []))) = _
  rw [List.set_append_right _ _ (Nat.le_refl _), Nat.sub_self]; rfl
theorem _root_.PD.Kp.seq {m q : Nat} {g g' : G} (h : Kp m g g') (hq : q ≠ m) {ds : List D} (e : g[q]? = some (.lst ds)) : seqD (.ref q) g' = some ds := seq_ref (h.at hq e)
def rest32 : Ss := (.cons b32_4 (.cons b32_5 (.cons b32_6 (.cons b32_7 .nil))))
theorem rest32_w (n : Nat) (hn : 40 ≤ n) {x0 x1 x2 x3 x4 : Option D} (g : G) {Qn : Sl → G → Prop} {Qr : D → G → Prop} {Es : Str → Fs → Sl → G → Prop} (hq : ∀ g', Qr (.bl true) g') :
    (exes (runF P.T n) rest32 [x0, x1, x2, x3, x4] g).sat Qn Qr Es := by
  unfold rest32
  rw [x_cons]
  simp -implicitDefEqProofs only [b32_4, x_asg, w_lst, wa_cons, wa_nil, w_txt, List.length_cons, List.length_nil, List.set]
  rw [if_pos (by rw [sizeLine_eq]; omega)]
  generalize hG : g ++ [DO.lst [.str "x"]] = g1
  have hh : g1[g.length]? = some (.lst [.str "x"]) := by rw [← hG]; exact at_new
  generalize g.length = h at *
  have n5 : No5 20 g1 (.ref h) := fun n hn => no5_len (seq_ref hh) (by simp) (by simp) n (by omega)
  rw [x_cons]
  unfold b32_5
  rw [x_asg, w_lst, wa_cons]
  refine met_w ?_
  simp -implicitDefEqProofs only [w_call, wa_cons, wa_nil, w_var, List.getElem?_cons_succ, List.getElem?_cons_zero, Option.join_some, some_w, r11x n n5 (by omega)]
  refine ⟨"expression", "expression", .ref h, lk_e, lf_e _, ?_⟩
  simp -implicitDefEqProofs only [w_call, w_lst, wa_cons, wa_nil, w_txt, w_var, List.getElem?_cons_succ, List.getElem?_cons_zero, Option.join_some, some_w, List.length_cons, List.length_nil]
  rw [if_pos (by rw [sizeLine_eq]; omega)]
  have hh2 : (g1 ++ [DO.lst [.str "x"]])[h]? = some (.lst [.str "x"]) := at_old hh
  have sm := sme 1 (.ref h) (.ref g1.length) (g1 ++ [DO.lst [.str "x"]]) n (.lst hh2 at_new rfl (by simp) fun i x y hx hy => by
    match i, hx, hy with
    | 0, hx, hy => cases hx; cases hy; exact .str ok_x) (by omega)
  refine w_mono sm fun y g2 ⟨e, gr⟩ => ?_
  subst e
  rw [if_pos (by rw [sizeLine_eq]; omega)]
  have hh3 : (g2 ++ [DO.lst [.tup [.str "expression", .ref h], .bl true]])[h]? = some (.lst [.str "x"]) := at_old (gr.at hh2)
  have hf3 : (g2 ++ [DO.lst [.tup [.str "expression", .ref h], .bl true]])[g2.length]? = some (.lst [.tup [.str "expression", .ref h], .bl true]) := at_new
  have hlt : h < g2.length := (List.getElem?_eq_some_iff.mp (gr.at hh2)).1
  generalize hG3 : g2 ++ [DO.lst [.tup [.str "expression", .ref h], .bl true]] = g3 at *
  rw [x_cons]
  unfold b32_6
  simp -implicitDefEqProofs only [x_exp, w_mth, w_var, List.set, List.getElem?_cons_succ, List.getElem?_cons_zero, Option.join_some, some_w, wa_cons, wa_nil, w_txt]
  rw [if_pos (isl_ref hh3), app_w hh3 (by simp)]
  have hl3 := (List.getElem?_eq_some_iff.mp hh3).1
  have k1 : (g3.set h (.lst ([.str "x"] ++ [.str "late"])))[h]? = some (.lst [.str "x", .str "late"]) := List.getElem?_set_self hl3
  have k2 : (g3.set h (.lst ([.str "x"] ++ [.str "late"])))[g2.length]? = some (.lst [.tup [.str "expression", .ref h], .bl true]) := by rw [List.getElem?_set_ne (by omega)]; exact hf3
  generalize g3.set h (.lst ([.str "x"] ++ [.str "late"])) = g4 at *
  generalize g2.length = f at *
  rw [x_cons]
  unfold b32_7
  simp -implicitDefEqProofs only [x_ret, w_call, w_lst, w_tup, w_boo, w_var, List.getElem?_cons_succ, List.getElem?_cons_zero, Option.join_some, some_w, wa_cons, wa_nil, w_txt, List.length_cons, List.length_nil]
  rw [if_pos (by rw [sizeLine_eq]; omega), if_pos (by rw [sizeLine_eq]; omega), if_pos (by rw [sizeLine_eq]; omega)]
  have k3 : (g4 ++ [DO.lst [.str "x", .str "late"]] ++ [DO.lst [.tup [.str "expression", .ref g4.length], .bl true]])[f]? = some (.lst [.tup [.str "expression", .ref h], .bl true]) := at_old (at_old k2)
  have k4 : (g4 ++ [DO.lst [.str "x", .str "late"]] ++ [DO.lst [.tup [.str "expression", .ref g4.length], .bl true]])[h]? = some (.lst [.str "x", .str "late"]) := at_old (at_old k1)
  have k5 : (g4 ++ [DO.lst [.str "x", .str "late"]] ++ [DO.lst [.tup [.str "expression", .ref g4.length], .bl true]])[g4.length]? = some (.lst [.str "x", .str "late"]) := at_old at_new
  have sm2 := sme 3 (.ref f) (.ref (g4 ++ [DO.lst [.str "x", .str "late"]]).length) (g4 ++ [DO.lst [.str "x", .str "late"]] ++ [DO.lst [.tup [.str "expression", .ref g4.length], .bl true]]) n (.lst k3 at_new rfl (by simp) fun i x y hx hy => by
    match i, hx, hy with
    | 0, hx, hy =>
      cases hx; cases hy
      refine .tup rfl (by simp) fun i x y hx hy => ?_
      match i, hx, hy with
      | 0, hx, hy => cases hx; cases hy; exact .str ok_expr
      | 1, hx, hy =>
        cases hx; cases hy
        refine .lst k4 k5 rfl (by simp) fun i x y hx hy => ?_
        match i, hx, hy with
        | 0, hx, hy => cases hx; cases hy; exact .str ok_x
        | 1, hx, hy => cases hx; cases hy; exact .str ok_late
    | 1, hx, hy => cases hx; cases hy; exact .bl) (by omega)
  refine w_mono sm2 fun y g5 ⟨e, gr⟩ => ?_
  subst e
  exact hq g5
theorem r32 (n : Nat) (hn : 66 ≤ n) (g : G) : (runF P.T n 32 [] g).w fun y g' => y = .bl true := by
  obtain ⟨n, rfl⟩ : ∃ j, n = j + 1 := ⟨n - 1, by omega⟩
  rw [run_er (F := f32) rfl e32 rfl, b32_eq]
  simp -implicitDefEqProofs only [PD.R.w, fin_w, startD, n32, List.map, List.length, List.replicate, List.nil_append]
  rw [x_cons]
  unfold b32_0
  simp -implicitDefEqProofs [sizeLine_eq, dct0]
  have d0 : DE g.length (g ++ [DO.dic [], DO.lst (odds g.length)]) := .inl at_new
  have o0 : (g ++ [DO.dic [], DO.lst (odds g.length)])[g.length + 1]? = some (.lst (odds g.length)) := at_new1
  have l0 : (g ++ [DO.dic [], DO.lst (odds g.length)]).length = g.length + 2 := by simp
  show (exe (runF P.T n) b32_1 [some (.ref (g.length + 1)), none, none, none, none] (g ++ [DO.dic [], DO.lst (odds g.length)])).sat _ _ _
  generalize hG0 : g ++ [DO.dic [], DO.lst (odds g.length)] = G0 at *
  generalize g.length = m at *
  have a1 : (G0 ++ [DO.lst [.str "name"]] ++ [DO.lst (ex1 (m + 2))])[m + 1]? = some (.lst (odds m)) := at_old (at_old o0)
  have a2 : (G0 ++ [DO.lst [.str "name"]] ++ [DO.lst (ex1 (m + 2))])[m + 3]? = some (.lst (ex1 (m + 2))) := by
    have : (G0 ++ [DO.lst [.str "name"]]).length = m + 3 := by simp [l0]
    rw [← this]; exact at_new
  have he : ev (runF P.T n) it1 [some (.ref (m + 1)), none, none, none, none] G0 = .ok (.ref (m + 4)) (G0 ++ [DO.lst [.str "name"]] ++ [DO.lst (ex1 (m + 2))] ++ [DO.lst (odds m ++ ex1 (m + 2))]) := by
    apply eq_of_w
    simp -implicitDefEqProofs only [it1, PD.R.w, w_bin, w_var, List.getElem?_cons_zero, Option.join_some, some_w, w_lst, wa_cons, wa_nil, w_tup, w_txt, w_num, List.length_cons, List.length_nil]
    rw [if_pos (by rw [sizeLine_eq]; omega), if_pos (by rw [sizeLine_eq]; omega), if_pos (by rw [sizeLine_eq]; omega), if_pos (by rw [sizeLine_eq]; omega), if_pos (by rw [sizeLine_eq]; omega), if_pos (by rw [sizeLine_eq]; omega), if_pos (by rw [sizeLine_eq]; omega)]
    have e1 : (G0 ++ [DO.lst [.str "name"]]).length = m + 3 := by simp [l0]
    have e2 : (G0 ++ [DO.lst [.str "name"]] ++ [DO.lst (ex1 (m + 2))]).length = m + 4 := by simp [l0]
    rw [e1, l0, addLL a1 a2 (by simp)]
    exact ⟨by rw [e2], rfl⟩
  rw [b1_eq]
  have q1 : (G0 ++ [DO.lst [.str "name"]] ++ [DO.lst (ex1 (m + 2))] ++ [DO.lst (odds m ++ ex1 (m + 2))])[m + 4]? = some (.lst (odds m ++ ex1 (m + 2))) := by
    have : (G0 ++ [DO.lst [.str "name"]] ++ [DO.lst (ex1 (m + 2))]).length = m + 4 := by simp [l0]
    rw [← this]; exact at_new
  have q2 : (G0 ++ [DO.lst [.str "name"]] ++ [DO.lst (ex1 (m + 2))] ++ [DO.lst (odds m ++ ex1 (m + 2))])[m + 2]? = some (.lst [.str "name"]) := by
    rw [← l0]; exact at_old (at_old at_new)
  have q3 := at_old (t := [DO.lst (odds m ++ ex1 (m + 2))]) a1
  have dd : DE m (G0 ++ [DO.lst [.str "name"]] ++ [DO.lst (ex1 (m + 2))] ++ [DO.lst (odds m ++ ex1 (m + 2))]) := ((d0.gr (Gr.add _ _)).gr (Gr.add _ _)).gr (Gr.add _ _)
  rw [x_forE he (seq_ref q1)]
  generalize G0 ++ [DO.lst [.str "name"]] ++ [DO.lst (ex1 (m + 2))] ++ [DO.lst (odds m ++ ex1 (m + 2))] = G1 at *
  refine for_l (odds m ++ ex1 (m + 2)) id (fun i δ gi => Kp m G1 gi ∧ DE m gi ∧ ∃ x1, δ = [some (.ref (m + 1)), x1, none, none, none]) (by simp) (fun i δ gi ⟨kp, _⟩ => by rw [List.map_id]; exact kp.seq (by omega) q1) (fun i hi δ gi ⟨kp, de, x1, hδ⟩ => ?_) (fun δ gi ⟨kp, de, x1, hδ⟩ => ?_) _ G1 ⟨Kp.gr (Gr.refl _), dd, none, rfl⟩
  · subst hδ
    refine ⟨[some (.ref (m + 1)), some (odds m ++ ex1 (m + 2))[i], none, none, none], rfl, ?_⟩
    have hx : No5 20 gi (odds m ++ ex1 (m + 2))[i] ∧ OkS (n - 1) m gi (odds m ++ ex1 (m + 2))[i] := by
      rcases List.mem_append.mp (List.getElem_mem hi) with z | z
      · exact ⟨odds_5 m gi de _ z, odds_S (n - 1) m (by omega) gi _ z⟩
      · exact ex1_all (n - 1) m (m + 2) (by omega) gi (kp.at (by omega) q2) (by omega) _ z
    exact sE_w n m (by omega) _ gi hx.1 hx.2 de fun g' kp' de' => ⟨kp.trans kp', de', _, rfl⟩
  · subst hδ
    have o1 := kp.at (by omega) q3
    unfold b32_2
    simp -implicitDefEqProofs only [x_asg, w_tup, wa_cons, wa_nil, w_txt, w_num, List.length_cons, List.length_nil, List.set]
    rw [if_pos (by rw [sizeLine_eq]; omega), b3_eq]
    have hml := de.lt
    have b1 : (gi ++ [DO.lst ex2])[m + 1]? = some (.lst (odds m)) := at_old o1
    have he : ev (runF P.T n) it2 [some (.ref (m + 1)), x1, some nu1, none, none] gi = .ok (.ref (gi ++ [DO.lst ex2]).length) (gi ++ [DO.lst ex2] ++ [DO.lst (odds m ++ ex2)]) := by
      apply eq_of_w
      simp -implicitDefEqProofs only [it2, PD.R.w, w_bin, w_var, w_non, List.getElem?_cons_zero, List.getElem?_cons_succ, Option.join_some, some_w, w_lst, wa_cons, wa_nil, w_tup, w_txt, w_num, List.length_cons, List.length_nil]
      rw [if_pos (by rw [sizeLine_eq]; omega), if_pos (by rw [sizeLine_eq]; omega), if_pos (by rw [sizeLine_eq]; omega), if_pos (by rw [sizeLine_eq]; omega), if_pos (by rw [sizeLine_eq]; omega), if_pos (by rw [sizeLine_eq]; omega)]
      rw [addLL b1 at_new (by simp)]
      exact ⟨rfl, rfl⟩
    rw [x_forE he (seq_ref at_new)]
    have c1 : (gi ++ [DO.lst ex2] ++ [DO.lst (odds m ++ ex2)])[(gi ++ [DO.lst ex2]).length]? = some (.lst (odds m ++ ex2)) := at_new
    have c2 : DE m (gi ++ [DO.lst ex2] ++ [DO.lst (odds m ++ ex2)]) := (de.gr (Gr.add _ _)).gr (Gr.add _ _)
    have c3 : (gi ++ [DO.lst ex2]).length ≠ m := by simp; omega
    generalize (gi ++ [DO.lst ex2]).length = q at *
    generalize gi ++ [DO.lst ex2] ++ [DO.lst (odds m ++ ex2)] = G2 at *
    refine for_l (odds m ++ ex2) id (fun i δ gi => Kp m G2 gi ∧ DE m gi ∧ ∃ x1, δ = [some (.ref (m + 1)), x1, some nu1, none, none]) (by simp) (fun i δ gi ⟨kp, _⟩ => by rw [List.map_id]; exact kp.seq c3 c1) (fun i hi δ gi ⟨kp, de, x1, hδ⟩ => ?_) (fun δ gi ⟨kp, de, x1, hδ⟩ => ?_) _ G2 ⟨Kp.gr (Gr.refl _), c2, x1, rfl⟩
    · subst hδ
      refine ⟨[some (.ref (m + 1)), some (odds m ++ ex2)[i], some nu1, none, none], rfl, ?_⟩
      have hx : No12 60 gi (odds m ++ ex2)[i] ∧ ∀ g', Gr gi g' → OkS (n - 1) m g' (odds m ++ ex2)[i] := by
        rcases List.mem_append.mp (List.getElem_mem hi) with z | z
        · exact ⟨odds_12 m gi de _ z, fun g' _ => odds_S (n - 1) m (by omega) g' _ z⟩
        · exact ⟨(ex2_all (n - 1) m (by omega) gi _ z).1, fun g' _ => (ex2_all (n - 1) m (by omega) g' _ z).2⟩
      exact sC_w n m (by omega) _ gi hx.1 hx.2 de fun g' kp' de' => ⟨kp.trans kp', de', _, rfl⟩
    · subst hδ
      have fin := rest32_w n (by omega) (x0 := some (.ref (m + 1))) (x1 := x1) (x2 := some nu1) (x3 := none) (x4 := none) gi (Qn := fun _ _ => False) (Qr := fun y _ => y = D.bl true) (Es := fun c fs _ g => No c fs g) fun g' => rfl
      unfold rest32 at fin
      simp -implicitDefEqProofs only [x_cons, x_nil] at fin
      exact fin
end K74
set_option linter.all false
set_option maxRecDepth 100000
set_option maxHeartbeats 4000000
/-! k74: the law. -/
namespace K74
open PySem PySem.Spec PyProof.Rows L2 PD
@[simp] theorem n18 : f18.N.length = 1 := rfl
@[simp] theorem n33 : f33.N.length = 7 := rfl
def b33_0 : S := (.asg 1 PD.e0 p0 (.call 18 PD.e0 p0 (.cons (.var 0 PD.e0 p0) .nil) p0) p0)
def b33_1 : S := (.forr (.name 2 PD.e0 p0) (.rng1 p0 (.num 10 0 p0) p0) (.cons (.asg 3 PD.e0 p0 (.call 20 PD.e0 p0 (.cons (.var 1 PD.e0 p0) (.cons (.lst (.cons (.lst (.cons (.txt "u0" 0 p0) .nil) p0) (.cons (.lst (.cons (.txt "u0" 0 p0) (.cons (.txt "u1" 0 p0) .nil)) p0) (.cons (.lst (.cons (.txt "u1" 0 p0) (.cons (.txt "u10" 0 p0) (.cons (.txt "u2" 0 p0) .nil))) p0) (.cons (.lst (.cons (.txt "x" 0 p0) (.cons (.txt "u0" 0 p0) (.cons (.txt "" 0 p0) .nil))) p0) .nil)))) p0) .nil)) p0) p0) (.cons (.ifs (.nt (.call 30 PD.e0 p0 (.cons (.var 1 PD.e0 p0) (.cons (.call 23 PD.e0 p0 (.cons (.var 1 PD.e0 p0) (.cons (.var 3 PD.e0 p0) (.cons (.num 4 0 p0) .nil))) p0) (.cons (.var 3 PD.e0 p0) .nil))) p0) p0) (.cons (.ret (.boo false 0 p0) p0) .nil) .nil p0) (.cons (.ifs (.nt (.call 31 PD.e0 p0 (.cons (.var 1 PD.e0 p0) (.cons (.call 24 PD.e0 p0 (.cons (.var 1 PD.e0 p0) (.cons (.var 3 PD.e0 p0) (.cons (.num 2 0 p0) .nil))) p0) (.cons (.var 3 PD.e0 p0) .nil))) p0) p0) (.cons (.ret (.boo false 0 p0) p0) .nil) .nil p0) .nil))) p0)
def b33_2 : S := (.asg 4 PD.e0 p0 (.tup (.cons (.txt "add" 0 p0) (.cons (.tup (.cons (.txt "name" 0 p0) (.cons (.txt "u0" 0 p0) .nil)) 0 p0) (.cons (.tup (.cons (.txt "sub" 0 p0) (.cons (.tup (.cons (.txt "number" 0 p0) (.cons (.num 2 0 p0) .nil)) 0 p0) (.cons (.tup (.cons (.txt "name" 0 p0) (.cons (.txt "u0" 0 p0) .nil)) 0 p0) .nil))) 0 p0) .nil))) 0 p0) p0)
def b33_3 : S := (.asg 5 PD.e0 p0 (.lst (.cons (.call 11 PD.e0 p0 (.cons (.var 4 PD.e0 p0) .nil) p0) (.cons (.call 11 PD.e0 p0 (.cons (.tup (.cons (.txt "mod" 0 p0) (.cons (.var 4 PD.e0 p0) (.cons (.num 2 0 p0) .nil))) 0 p0) .nil) p0) (.cons (.call 11 PD.e0 p0 (.cons (.tup (.cons (.txt "div" 0 p0) (.cons (.tup (.cons (.txt "add" 0 p0) (.cons (.tup (.cons (.txt "name" 0 p0) (.cons (.txt "b" 0 p0) .nil)) 0 p0) (.cons (.tup (.cons (.txt "name" 0 p0) (.cons (.txt "a" 0 p0) .nil)) 0 p0) .nil))) 0 p0) (.cons (.num 3 0 p0) .nil))) 0 p0) .nil) p0) .nil))) p0) p0)
def b33_4 : S := (.asg 6 PD.e0 p0 (.lst (.cons (.tup (.cons (.txt "number" 0 p0) (.cons (.num 2 0 p0) .nil)) 0 p0) (.cons (.tup (.cons (.txt "number" 0 p0) (.cons (.num 0 0 p0) .nil)) 0 p0) (.cons (.tup (.cons (.txt "div" 0 p0) (.cons (.tup (.cons (.txt "add" 0 p0) (.cons (.tup (.cons (.txt "name" 0 p0) (.cons (.txt "a" 0 p0) .nil)) 0 p0) (.cons (.tup (.cons (.txt "name" 0 p0) (.cons (.txt "b" 0 p0) .nil)) 0 p0) .nil))) 0 p0) (.cons (.num 3 0 p0) .nil))) 0 p0) .nil))) p0) p0)
def b33_5 : S := (.ret (.bop true (.cons (.call 21 PD.e0 p0 (.cons (.var 5 PD.e0 p0) (.cons (.var 6 PD.e0 p0) .nil)) p0) (.cons (.call 32 PD.e0 p0 .nil p0) .nil)) p0) p0)
theorem b33_eq : b33 = (.cons b33_0 (.cons b33_1 (.cons b33_2 (.cons b33_3 (.cons b33_4 (.cons b33_5 .nil)))))) := rfl
def spot (k : Nat) : Spot := ⟨k + 2, k, k + 1, by omega, by omega⟩
theorem r18 (n : Nat) (hn : 1 ≤ n) (d : D) (g : G) (ns : List Int) (hl : ns.length ≤ 63) (hs : seqD d g = some (ns.map D.int)) : (runF P.T n 18 [d] g).w fun y g' => y = .ref (spot g.length).s ∧ Stm (spot g.length) 0 g' := by
  obtain ⟨n, rfl⟩ : ∃ j, n = j + 1 := ⟨n - 1, by omega⟩
  rw [run_er (F := f18) rfl e18 rfl]
  have hb : ∀ {Q : D → G → Prop} {Ec : Str → Fs → G → Prop}, (bltD .list [d] g).sat Q Ec = Q (.ref g.length) (g ++ [DO.lst (ns.map D.int)]) := fun {Q Ec} => by
    show (match seqD d g with
      | some ds => newL ds g
      | none => (match dicD d g with
        | some kvs => newL (kvs.map fun p : Key × D => keyV p.1) g
        | none => .bad)).sat Q Ec = _
    rw [hs]; rfl
  simp -implicitDefEqProofs [PD.R.w, fin_w, startD, b18, sizeLine_eq, hb]
  refine ⟨rfl, ⟨ns, 0, 0, 17, ⟨by show g.length ≠ g.length + 1; omega, at_new, at_new1, hl, by omega, by omega, by omega⟩, by omega, by omega⟩, ?_⟩
  show g.length + 2 ≤ _
  simp
def nm0 : List Str := ["u0"]
def nm1 : List Str := ["u0", "u1"]
def nm2 : List Str := ["u1", "u10", "u2"]
def nm3 : List Str := ["x", "u0", ""]
theorem ok_u1 : PyData.strOk "u1" = true := by decide +kernel
theorem ok_u10 : PyData.strOk "u10" = true := by decide +kernel
theorem ok_u2 : PyData.strOk "u2" = true := by decide +kernel
theorem ok_e : PyData.strOk "" = true := by decide +kernel
theorem nms0 : Nms nm0 := ⟨by simp [nm0], by simp [nm0], fun x hx => by simp [nm0] at hx; subst hx; exact ok_u0⟩
theorem nms1 : Nms nm1 := ⟨by simp [nm1], by simp [nm1], fun x hx => by
  simp [nm1] at hx; rcases hx with rfl | rfl
  · exact ok_u0
  · exact ok_u1⟩
theorem nms2 : Nms nm2 := ⟨by simp [nm2], by simp [nm2], fun x hx => by
  simp [nm2] at hx; rcases hx with rfl | rfl | rfl
  · exact ok_u1
  · exact ok_u10
  · exact ok_u2⟩
theorem nms3 : Nms nm3 := ⟨by simp [nm3], by simp [nm3], fun x hx => by
  simp [nm3] at hx; rcases hx with rfl | rfl | rfl
  · exact ok_x
  · exact ok_u0
  · exact ok_e⟩
def namE : E := (.lst (.cons (.lst (.cons (.txt "u0" 0 p0) .nil) p0) (.cons (.lst (.cons (.txt "u0" 0 p0) (.cons (.txt "u1" 0 p0) .nil)) p0) (.cons (.lst (.cons (.txt "u1" 0 p0) (.cons (.txt "u10" 0 p0) (.cons (.txt "u2" 0 p0) .nil))) p0) (.cons (.lst (.cons (.txt "x" 0 p0) (.cons (.txt "u0" 0 p0) (.cons (.txt "" 0 p0) .nil))) p0) .nil)))) p0)
def s33 : Ss := (.cons
    (.asg 3 PD.e0 p0 (.call 20 PD.e0 p0 (.cons (.var 1 PD.e0 p0) (.cons namE .nil)) p0) p0)
    (.cons
    (.ifs (.nt (.call 30 PD.e0 p0 (.cons (.var 1 PD.e0 p0) (.cons (.call 23 PD.e0 p0 (.cons (.var 1 PD.e0 p0) (.cons (.var 3 PD.e0 p0) (.cons (.num 4 0 p0) .nil))) p0) (.cons (.var 3 PD.e0 p0) .nil))) p0) p0) (.cons
      (.ret (.boo false 0 p0) p0)
      .nil) .nil p0)
    (.cons
    (.ifs (.nt (.call 31 PD.e0 p0 (.cons (.var 1 PD.e0 p0) (.cons (.call 24 PD.e0 p0 (.cons (.var 1 PD.e0 p0) (.cons (.var 3 PD.e0 p0) (.cons (.num 2 0 p0) .nil))) p0) (.cons (.var 3 PD.e0 p0) .nil))) p0) p0) (.cons
      (.ret (.boo false 0 p0) p0)
      .nil) .nil p0)
    .nil)))
theorem b33_1_eq : b33_1 = .forr (.name 2 PD.e0 p0) (.rng1 p0 (.num 10 0 p0) p0) s33 p0 := rfl
theorem s33_w (n : Nat) (hn : 62 ≤ n) (z : Spot) (T : Nat) (hT : T + 5000 < 2 ^ 39) (g : G) (st : Stm z T g) {x0 x2 x3 x4 x5 x6 : Option D} {Qn : Sl → G → Prop} {Qr : D → G → Prop} {Es : Str → Fs → Sl → G → Prop}
    (hq : ∀ x3 g', Stm z (T + 5000) g' → Qn [x0, some (.ref z.s), x2, x3, x4, x5, x6] g') :
    (exes (runF P.T n) s33 [x0, some (.ref z.s), x2, x3, x4, x5, x6] g).sat Qn Qr Es := by
  have bg := st.len
  have he : ev (runF P.T n) namE [x0, some (.ref z.s), x2, x3, x4, x5, x6] g = .ok (.ref (g.length + 4)) (g ++ [DO.lst (nm0.map D.str), DO.lst (nm1.map D.str), DO.lst (nm2.map D.str), DO.lst (nm3.map D.str), DO.lst [.ref g.length, .ref (g.length + 1), .ref (g.length + 2), .ref (g.length + 3)]]) := by
    apply eq_of_w
    simp -implicitDefEqProofs [namE, PD.R.w, sizeLine_eq, nm0, nm1, nm2, nm3]
  have hk : (g ++ [DO.lst (nm0.map D.str), DO.lst (nm1.map D.str), DO.lst (nm2.map D.str), DO.lst (nm3.map D.str), DO.lst [.ref g.length, .ref (g.length + 1), .ref (g.length + 2), .ref (g.length + 3)]])[g.length + 4]? = some (.lst [.ref g.length, .ref (g.length + 1), .ref (g.length + 2), .ref (g.length + 3)]) := at_app 4
  have hN : ∀ i, i < 4 → ∃ N, Nms N ∧ (g ++ [DO.lst (nm0.map D.str), DO.lst (nm1.map D.str), DO.lst (nm2.map D.str), DO.lst (nm3.map D.str), DO.lst [.ref g.length, .ref (g.length + 1), .ref (g.length + 2), .ref (g.length + 3)]])[g.length + i]? = some (.lst (N.map D.str)) := fun i hi => by
    rcases (by omega : i = 0 ∨ i = 1 ∨ i = 2 ∨ i = 3) with rfl | rfl | rfl | rfl
    · exact ⟨nm0, nms0, at_app 0⟩
    · exact ⟨nm1, nms1, at_app 1⟩
    · exact ⟨nm2, nms2, at_app 2⟩
    · exact ⟨nm3, nms3, at_app 3⟩
  have st1 : Stm z T (g ++ [DO.lst (nm0.map D.str), DO.lst (nm1.map D.str), DO.lst (nm2.map D.str), DO.lst (nm3.map D.str), DO.lst [.ref g.length, .ref (g.length + 1), .ref (g.length + 2), .ref (g.length + 3)]]) := st.gr (Gr.add _ _)
  unfold s33
  rw [x_cons, x_asg]
  simp -implicitDefEqProofs only [w_call, wa_cons, w_var, List.getElem?_cons_succ, List.getElem?_cons_zero, Option.join_some, some_w]
  rw [he, ok_w, wa_nil]
  generalize g ++ [DO.lst (nm0.map D.str), DO.lst (nm1.map D.str), DO.lst (nm2.map D.str), DO.lst (nm3.map D.str), DO.lst [.ref g.length, .ref (g.length + 1), .ref (g.length + 2), .ref (g.length + 3)]] = g1 at *
  refine w_mono (pck n (by omega) z T g1 (g.length + 4) _ st1 (by omega) hk (by omega) (by simp) (by simp)) fun y g2 ⟨⟨i, hi, e⟩, st2, sx2⟩ => ?_
  have hi4 : i < 4 := by simpa using hi
  have ey : y = .ref (g.length + i) := by
    rw [e]
    rcases (by omega : i = 0 ∨ i = 1 ∨ i = 2 ∨ i = 3) with rfl | rfl | rfl | rfl <;> rfl
  subst ey
  obtain ⟨N, hNm, hNg⟩ := hN i hi4
  have hN2 := sx2.at (by omega : z.b ≤ g.length + i) hNg
  generalize hkn : g.length + i = kn at *
  have hbk : z.b ≤ kn := by omega
  have k4 : Kx 4 = 139 := rfl
  have k2 : Kc 2 = 280 := rfl
  simp -implicitDefEqProofs
  refine w_mono (r23 N hNm 4 z (T + 1) g2 kn n st2 (by omega) hN2 hbk (by omega)) fun y g3 ⟨⟨t, e, dt⟩, st3, sx3⟩ => ?_
  subst e
  have m4 := dt.mag
  have p4 : 5 * 3 ^ 4 = 405 := by decide
  have it : Inp t := ⟨ns_nk hNm t dt.ns, dt.kb, dt.dep, by omega⟩
  have hN3 := sx3.at hbk hN2
  refine w_mono (r30 N hNm t it dt.ns z _ g3 kn n st3 (by omega) hN3 hbk (by omega)) fun y g4 ⟨e, st4, sx4⟩ => ?_
  subst e
  have hN4 := sx4.at hbk hN3
  simp -implicitDefEqProofs
  refine w_mono (r24 N hNm 2 z _ g4 kn n st4 (by omega) hN4 hbk (by omega)) fun y g5 ⟨⟨c, e, dc⟩, st5, sx5⟩ => ?_
  subst e
  have hN5 := sx5.at hbk hN4
  have ck : Cok N c := ⟨co_all (fun t dt => by
      have m4 := dt.mag
      have p4 : 5 * 3 ^ 1 = 15 := by decide
      have hd := dt.dep
      exact ⟨⟨ns_nk hNm t dt.ns, dt.kb, by omega, by omega⟩, dt.dep, by omega⟩) c dc.1, co_all (fun t dt => dt.ns) c dc.1, dc.2⟩
  refine w_mono (r31 N hNm c ck z _ g5 kn n st5 (by omega) hN5 hbk (by omega)) fun y g6 ⟨e, st6, sx6⟩ => ?_
  subst e
  simp -implicitDefEqProofs
  exact hq _ g6 (st6.up (by omega))
def t1 : Ex := .ad (.nam "u0") (.sb (.num 2) (.nam "u0"))
def t2 : Ex := .md t1 2
def t3 : Ex := .dv (.ad (.nam "b") (.nam "a")) 3
theorem ok_a : PyData.strOk "a" = true := by decide +kernel
theorem ok_b : PyData.strOk "b" = true := by decide +kernel
theorem inp1 : Inp t1 := ⟨⟨ok_u0, trivial, ok_u0⟩, ⟨trivial, trivial, trivial⟩, by decide, by decide⟩
theorem inp2 : Inp t2 := ⟨⟨ok_u0, trivial, ok_u0⟩, ⟨⟨trivial, trivial, trivial⟩, by omega, by omega⟩, by decide, by decide⟩
theorem inp3 : Inp t3 := ⟨⟨ok_b, ok_a⟩, ⟨⟨trivial, trivial⟩, by omega, by omega⟩, by decide, by decide⟩
theorem pl1 : pl t1 = .num 2 := by kernel_rfl
theorem pl2 : pl t2 = .num 0 := by kernel_rfl
theorem pl3 : pl t3 = .dv (.ad (.nam "a") (.nam "b")) 3 := by kernel_rfl
theorem tail33 (n : Nat) (hn : 70 ≤ n) (g : G) {x0 x1 x2 x3 x4 x5 x6 : Option D} : (exes (runF P.T n) (.cons b33_2 (.cons b33_3 (.cons b33_4 (.cons b33_5 .nil)))) [x0, x1, x2, x3, x4, x5, x6] g).sat (fun _ _ => False) (fun y _ => y = D.bl true) (fun _ _ _ _ => False) := by
  have d1 : t1.dep = 3 := rfl
  simp -implicitDefEqProofs only [x_cons, b33_2, b33_3, b33_4, b33_5, x_asg, x_ret, x_nil, w_tup, w_lst, w_call, wa_cons, wa_nil, w_txt, w_num, w_var, List.length_cons, List.length_nil, List.set, List.getElem?_cons_succ, List.getElem?_cons_zero, Option.join_some, some_w]
  simp -implicitDefEqProofs only [sizeLine_eq]
  rw [if_pos (by omega), if_pos (by omega), if_pos (by omega), if_pos (by omega), if_pos (by omega)]
  have c1 := p11 inp1.ok n t1.dep t1.d g (lz_d g t1) (by decide) (by omega)
  refine w_mono (show (runF P.T n 11 [t1.d] g).w _ from c1) fun y g1 ⟨e, gr1⟩ => ?_
  rw [if_pos (by omega)]
  have c2 := p11 inp2.ok n t2.dep t2.d g1 (lz_d g1 t2) (by decide) (by omega)
  refine w_mono (show (runF P.T n 11 [t2.d] g1).w _ from c2) fun y2 g2 ⟨e2, gr2⟩ => ?_
  rw [if_pos (by omega), if_pos (by omega), if_pos (by omega), if_pos (by omega)]
  have c3 := p11 inp3.ok n t3.dep t3.d g2 (lz_d g2 t3) (by decide) (by omega)
  refine w_mono (show (runF P.T n 11 [t3.d] g2).w _ from c3) fun y3 g3 ⟨e3, gr3⟩ => ?_
  rw [pl1] at e
  rw [pl2] at e2
  rw [pl3] at e3
  subst e; subst e2; subst e3
  rw [if_pos (by omega), if_pos (by omega), if_pos (by omega), if_pos (by omega), if_pos (by omega), if_pos (by omega), if_pos (by omega), if_pos (by omega)]
  rw [w_bop, wb_more, w_call, wa_cons]
  simp -implicitDefEqProofs only [w_var, wa_cons, wa_nil, List.getElem?_cons_succ, List.getElem?_cons_zero, Option.join_some, some_w]
  have three : ∀ (g : G) (i : Nat) (x y : D), ([(Ex.num 2).d, (Ex.num 0).d, (Ex.dv (.ad (.nam "a") (.nam "b")) 3).d] : List D)[i]? = some x → ([(Ex.num 2).d, (Ex.num 0).d, (Ex.dv (.ad (.nam "a") (.nam "b")) 3).d] : List D)[i]? = some y → Sm g 3 x y := fun g i x y hx hy => by
    match i, hx, hy with
    | 0, hx, hy => cases hx; cases hy; exact (sm_d g (.num 2) trivial).up (by decide)
    | 1, hx, hy => cases hx; cases hy; exact (sm_d g (.num 0) trivial).up (by decide)
    | 2, hx, hy => cases hx; cases hy; exact (sm_d g (.dv (.ad (.nam "a") (.nam "b")) 3) ⟨ok_a, ok_b⟩).up (by decide)
  refine w_mono (sme 4 _ _ _ n (.lst (at_old at_new) at_new rfl (by simp) (three _)) (by omega)) fun y g4 ⟨e, gr4⟩ => ?_
  subst e
  simp -implicitDefEqProofs only [truB_w, if_true, wb_one, w_call, wa_nil]
  exact w_mono (r32 n (by omega) g4) fun y g5 e => e
theorem r33 (n : Nat) (hn : 71 ≤ n) (d : D) (g : G) (ns : List Int) (hl : ns.length ≤ 63) (hs : seqD d g = some (ns.map D.int)) : (runF P.T n 33 [d] g).w fun y _ => y = .bl true := by
  obtain ⟨n, rfl⟩ : ∃ j, n = j + 1 := ⟨n - 1, by omega⟩
  rw [run_er (F := f33) rfl e33 rfl, b33_eq]
  simp -implicitDefEqProofs only [PD.R.w, fin_w, startD, n33, List.map, List.length, List.replicate, List.cons_append, List.nil_append]
  rw [x_cons]
  simp -implicitDefEqProofs only [b33_0, x_asg, w_call, wa_cons, wa_nil, w_var, List.getElem?_cons_zero, Option.join_some, some_w, List.set]
  refine w_mono (r18 n (by omega) d g ns hl hs) fun y g1 ⟨e, st⟩ => ?_
  subst e
  generalize spot g.length = z at *
  rw [x_cons, b33_1_eq, x_rng (by decide)]
  refine for_r (n := 10) (lo := 0) (fun i δ gi => Stm z (5000 * i) gi ∧ ∃ x2 x3, δ = [some d, some (.ref z.s), x2, x3, none, none, none]) (by omega) (fun i hi δ gi ⟨h1, x2, x3, hδ⟩ => ?_) (fun δ gi ⟨h1, x2, x3, hδ⟩ => ?_) _ g1 ⟨st, none, none, rfl⟩
  · subst hδ
    refine ⟨[some d, some (.ref z.s), some (.int (0 + i)), x3, none, none, none], rfl, ?_⟩
    refine s33_w n (by omega) z (5000 * i) (by omega) gi h1 fun x3' g' st' => ?_
    exact ⟨by rw [show 5000 * (i + 1) = 5000 * i + 5000 from by omega]; exact st', _, _, rfl⟩
  · subst hδ
    exact S_mono (tail33 n (by omega) gi) (fun _ _ z => absurd z id) (fun _ _ z => z) fun _ _ _ _ z => absurd z id
theorem keeps : P.Keeps 75 33 := by
  intro d g ns hl _ hs
  have h := r33 75 (by omega) d g ns hl hs
  cases e : runF P.T 75 33 [d] g with
  | ok y g' =>
    rw [e] at h
    have h : y = .bl true := h
    exact ⟨g', by rw [h]⟩
  | ex c fs g' => rw [e] at h; exact absurd h id
  | bad => rw [e] at h; exact absurd h id
end K74
set_option Elab.async false
set_option linter.all false
set_option maxRecDepth 100000
set_option maxHeartbeats 0
/-! the head of the law. -/
namespace K74
open PySem PySem.Spec PyProof.Rows L2 PD
abbrev hk : PySem.W.Hook := He.hookX 5 P.fa P.fn [] P.tf P.ex
def ob (s : PySem.W.SharedT) : He.AlX := He.obsX 5 P.fa P.fn [] P.tf P.ex (HandSHeadRun.getT s)
theorem ob_eq (s : PySem.W.SharedT) : ob s = hk.obs s.abs := He.obsX_eq (HandSHeadRun.getT_eq s)
def names : List Str := (R.prog.main.scope.names.filterMap fun p => if p.2 = .local ∧ p.1 ≠ ("law" : Str) then some p.1 else none)
theorem run (w : World) : HandSHeadRun.RunEq R (PySem.W.view R.prog [43]) hk ob 4000 names w := by
  intro os
  kernel_rfl
end K74
open PySem PySem.W PySem.Calls PyProof.Rows
theorem PySem.Challenge.cw_everypath_k74_whole_plain_forms_holds : PySem.Challenge.rw_everypath_k74_whole_plain_forms.Holds := by
  w_on; o_law
  refine HandSHeadRun.head_any (r := K74.R) (q := view K74.R.prog [43]) (H := K74.hk) (ob := K74.ob) (M := 4000) (loose := K74.names) (d := HandSHeadRun.topDef K74.R.prog 43) (kwd := []) K74.ob_eq
    (by kernel_rfl) (fun s => by kernel_rfl) K74.run (by kernel_rfl) (by kernel_rfl) (by kernel_rfl) (by rfl) (by first | assumption | decide +kernel) (by decide +kernel) ⟨rfl, rfl, rfl, rfl, rfl, by decide +kernel⟩ ?hw ?hc
  case hw => w_witness2
  case hc =>
    refine LamX.walk_ofTsE (l := K74.L) (n := 63) (k := 3 * 75 + 4) (x := "_law_script") (CX := fun w => L2.CX K74.L.prog w) rfl (by decide) (by kernel_rfl) ⟨rfl, by decide, by decide⟩ ?F (fun _ _ _ _ _ z => by obtain ⟨_, _, _, _, _, _, _, _, _, _, _, _, z⟩ := z; exact z)
    intro w mg fa h Y G hmg0
    obtain ⟨K, KX, c⟩ := Y
    have hmg : mg ("law" : PySem.Str) = some (.ref fa) := by
      have e : (HandSHeadRun.topDef K74.R.prog 43).name = ("law" : PySem.Str) := by kernel_rfl
      rw [← e]
      exact hmg0
    exact ⟨K, KX, PD.law_at (F := K74.f33) (x := "_law_script") KX G K74.okP K74.bnd c rfl rfl hmg K74.keeps⟩
