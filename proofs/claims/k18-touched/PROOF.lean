import PyProof.Rows.All
import Wide.All
import OpenK.AllK
import Wide.FinOn
import HandS.ForMost
import HandS.Exc
import HandS.TryOnly
import HandS.ExcOwn
import HandS.WordsExc
import HandS.IsInst
import HandS.Defaults
import HandS.Wide
import HandS.WideBits
import HandS.TupAny
import HandS.Flow
import HandS.HeadHook2
import HandS.Nested
import HandS.TupLe
import HandS.New0
import HandS.HeadEnd
import HandS.Head2
import HandS.ExcField
import PySem.Challenge.RW_pastdesk_k18_touched
import HandS.SortInts
import HandS.SortRule
import HandS.More
import HandS.Conv
import HandS.Rev
import KE.DataMinMax
import KE.DataFind
import KE.SortData
set_option Elab.async false
set_option linter.all false
set_option autoImplicit false
set_option maxRecDepth 100000
set_option maxHeartbeats 8000000
/-! Pd0: data D, stores, results; how they lie in the abstract heap; expressions, statements by functions over them. -/
namespace PD
open PySem L2

/-! ### data -/
inductive D where
  | non | bl (b : Bool) | int (i : Int) | str (x : Str) | tup (l : List D) | ref (n : Nat) | hot (a : Addr) (dn : Option (Addr × Nat))
-- hot: an exception that is handled, at its address; where its fields stand (their dict's address, its place in the store)
/-- what stands at a reference: a list; a list that is read alone (the script); a dict by ints and texts; one that is walked; an instance; the table of code objects of the def x; the fields of an exception; a dict by tuples -/
inductive O where
  | lst (l : List D) | scr (l : List D) | dk (kvs : List (Key × D)) | lk (kvs : List (Key × D)) | ins (c : Str) (fs : List (Str × D)) | tab (x : Str) | xd (fs : List (Str × D)) | dt (kvs : List (List Key × D))
abbrev Sto := List O
abbrev En := List (Option D)
structure Exn where
  cls : Str
  fs : Option (List (Str × D))
inductive Res (α : Type) where
  | ok (a : α) (s : Sto) | err (e : Exn) (s : Sto) | bad
def Res.bind {α β : Type} (r : Res α) (k : α → Sto → Res β) : Res β := match r with
  | .ok a s => k a s
  | .err e s => .err e s
  | .bad => .bad
inductive RS where
  | nx (ρ : En) (s : Sto) | rt (d : D) (s : Sto) | bk (ρ : En) (s : Sto) | ct (ρ : En) (s : Sto) | err (e : Exn) (ρ : En) (s : Sto) | bad
def Res.st {α : Type} (ρ : En) (r : Res α) (k : α → Sto → RS) : RS := match r with
  | .ok a s => k a s
  | .err e s => .err e ρ s
  | .bad => .bad
def RS.next (r : RS) (k : En → Sto → RS) : RS := match r with
  | .nx ρ s => k ρ s
  | r => r
abbrev GE := En → Sto → Res D
abbrev GT := En → Sto → Res Bool
abbrev GA := En → Sto → Res (List D)
abbrev GS := En → Sto → RS
abbrev Fn := List D → Sto → Res D

/-! ### how data lie in the heap -/
mutual
def Rep (K : PySem.W.Frag) (α : List Addr) (H : Hp) : D → V → Prop
  | .non, v => v = .non
  | .bl b, v => v = .bl b
  | .int i, v => v = .int i
  | .str x, v => v = .str x
  | .ref n, v => ∃ a, α[n]? = some a ∧ v = .ref a
  | .hot a dn, v => v = .ref a ∧ ∀ p, dn = some p → α[p.2]? = some p.1
  | .tup ds, v => ∃ a vs, v = .ref a ∧ SqT K H a vs ∧ RepL K α H ds vs
def RepL (K : PySem.W.Frag) (α : List Addr) (H : Hp) : List D → List V → Prop
  | [], vs => vs = []
  | d :: ds, vs => ∃ v r, vs = v :: r ∧ Rep K α H d v ∧ RepL K α H ds r
end
/-- a list of the written part -/
def KL (K : PySem.W.Frag) (a : Addr) (xs : List V) : Prop :=
  ∃ (o : Obj) (its : Array Value) (n : Nat), K.lookup a = some o ∧ o.cls = .type "list" ∧ o.dict = none ∧ o.data = .seq its n ∧ its.size ≤ sizeLine ∧ Vals xs its.toList
def RepF {κ : Type} (K : PySem.W.Frag) (α : List Addr) (H : Hp) (l : List (κ × D)) (m : List (κ × V)) : Prop := m.map (·.1) = l.map (·.1) ∧ RepL K α H (l.map (·.2)) (m.map (·.2))
/-- where the code object of the def x stands, and its table -/
def cdA (K : PySem.W.Frag) (x : Str) : Addr := match K.lookup (He.ga K x) with
  | some ⟨_, _, .func fd, _⟩ => (match fd.code with
    | .ref c => c
    | _ => 0)
  | _ => 0
def tbA (K : PySem.W.Frag) (x : Str) : Addr := match K.lookup (cdA K x) with
  | some ⟨_, _, .fields vs, _⟩ => (match (vs[11]? : Option Value) with
    | some (.ref P) => P
    | _ => 0)
  | _ => 0
/-- how the lambda in the def x is called -/
def lamQ (x : Str) : Str := x ++ ".<locals>." ++ "<lambda>"
def ORel (K : PySem.W.Frag) (α : List Addr) (H : Hp) : O → Addr → Prop
  | .lst ds, a => ∃ vs, H a = some (.lst vs) ∧ RepL K α H ds vs
  | .scr ds, a => ∃ vs, ((∃ o, H a = some (.frz o (.lst vs))) ∨ KL K a vs) ∧ RepL K α H ds vs
  | .dk kvs, a => ∃ kv, H a = some (.dK kv) ∧ RepF K α H kvs kv
  | .lk kvs, a => ∃ kv ob, H a = some (.frz ob (.dK kv)) ∧ RepF K α H kvs kv
  | .ins c fs, a => ∃ dx fv, H a = some (.ins (He.ga K c) dx fv) ∧ RepF K α H fs fv
  | .tab x, a => a = tbA K x ∧ LamX.TabS H a (lamQ x)
  | .xd fs, a => ∃ fv, H a = some (.xd fv) ∧ RepF K α H fs fv
  | .dt kvs, a => ∃ kv, H a = some (.dT kv) ∧ RepF K α H kvs kv
def mutb : O → Bool
  | .scr _ => false
  | .xd _ => false
  | _ => true
structure SOk (K : PySem.W.Frag) (α : List Addr) (H : Hp) (s : Sto) : Prop where
  len : α.length = s.length
  at_ : ∀ (n : Nat) (o : O), s[n]? = some o → ∃ a, α[n]? = some a ∧ ORel K α H o a
  nd : ∀ (m n : Nat) (om on : O) (a : Addr), m ≠ n → s[m]? = some om → s[n]? = some on → mutb om = true → mutb on = true → α[m]? = some a → α[n]? ≠ some a
def ERel (K : PySem.W.Frag) (α : List Addr) (H : Hp) (ρ : En) (σ : L2.St) : Prop := ρ.length = σ.length ∧ ∀ (i : Nat) (d : D), ρ[i]? = some (some d) → ∃ v, σ[i]? = some (some v) ∧ Rep K α H d v
/-- tuples stay, names of objects stay -/
structure LeT (K : PySem.W.Frag) (α : List Addr) (H : Hp) (α' : List Addr) (H' : Hp) : Prop where
  pre : ∃ t, α' = α ++ t
  tup : ∀ a vs, SqT K H a vs → SqT K H' a vs
  code : ∀ c q, H c = some (LamX.CodeO c q) → H' c = some (LamX.CodeO c q)
/-- .. and a dict that is walked stays -/
structure Le (K : PySem.W.Frag) (α : List Addr) (H : Hp) (α' : List Addr) (H' : Hp) : Prop extends LeT K α H α' H' where
  lk : ∀ a ob kv, H a = some (.frz ob (.dK kv)) → H' a = some (.frz ob (.dK kv))
variable {K : PySem.W.Frag} {α α' α1 α2 : List Addr} {H H' H1 H2 : Hp} {s s' s1 s2 : Sto} {ρ ρ' : En} {σ σ' : L2.St}
theorem Le.refl : Le K α H α H := ⟨⟨⟨[], by simp⟩, fun _ _ h => h, fun _ _ h => h⟩, fun _ _ _ h => h⟩
theorem Le.trans (a : Le K α H α1 H1) (b : Le K α1 H1 α2 H2) : Le K α H α2 H2 := by
  obtain ⟨⟨⟨t, e⟩, p, p2⟩, x⟩ := a
  obtain ⟨⟨⟨u, f⟩, q, q2⟩, y⟩ := b
  exact ⟨⟨⟨t ++ u, by rw [f, e, List.append_assoc]⟩, fun a vs h => q _ _ (p _ _ h), fun c z h => q2 _ _ (p2 _ _ h)⟩, fun a ob kv h => y _ _ _ (x _ _ _ h)⟩
theorem LeT.get (a : LeT K α H α' H') {n : Nat} {x : Addr} (h : α[n]? = some x) : α'[n]? = some x := by
  obtain ⟨⟨t, e⟩, _, _⟩ := a
  obtain ⟨hl, _⟩ := List.getElem?_eq_some_iff.mp h
  rw [e, List.getElem?_append_left hl]
  exact h
mutual
theorem Rep.monoT (l : LeT K α H α' H') : ∀ {d : D} {v : V}, Rep K α H d v → Rep K α' H' d v
  | .non, v, h => h
  | .bl b, v, h => h
  | .int i, v, h => h
  | .str x, v, h => h
  | .ref n, v, h => by
    obtain ⟨a, h1, h2⟩ := h
    exact ⟨a, l.get h1, h2⟩
  | .hot a dn, v, h => ⟨h.1, fun p e => l.get (h.2 p e)⟩
  | .tup ds, v, h => by
    obtain ⟨a, vs, h1, h2, h3⟩ := h
    exact ⟨a, vs, h1, l.tup _ _ h2, RepL.monoT l h3⟩
theorem RepL.monoT (l : LeT K α H α' H') : ∀ {ds : List D} {vs : List V}, RepL K α H ds vs → RepL K α' H' ds vs
  | [], vs, h => h
  | d :: ds, vs, h => by
    obtain ⟨v, r, h1, h2, h3⟩ := h
    exact ⟨v, r, h1, Rep.monoT l h2, RepL.monoT l h3⟩
end
theorem Le.get (a : Le K α H α' H') {n : Nat} {x : Addr} (h : α[n]? = some x) : α'[n]? = some x := LeT.get a.toLeT h
theorem Rep.mono (l : Le K α H α' H') {d : D} {v : V} (h : Rep K α H d v) : Rep K α' H' d v := Rep.monoT l.toLeT h
theorem RepL.mono (l : Le K α H α' H') {ds : List D} {vs : List V} (h : RepL K α H ds vs) : RepL K α' H' ds vs := RepL.monoT l.toLeT h
theorem RepF.monoT {κ : Type} {a : List (κ × D)} {b : List (κ × V)} (l : LeT K α H α' H') (h : RepF K α H a b) : RepF K α' H' a b := ⟨h.1, h.2.monoT l⟩
theorem ERel.monoT (l : LeT K α H α' H') (h : ERel K α H ρ σ) : ERel K α' H' ρ σ := ⟨h.1, fun i d e => by
  obtain ⟨v, h1, h2⟩ := h.2 i d e
  exact ⟨v, h1, h2.monoT l⟩⟩
theorem RepF.mono {κ : Type} {a : List (κ × D)} {b : List (κ × V)} (l : Le K α H α' H') (h : RepF K α H a b) : RepF K α' H' a b := ⟨h.1, h.2.mono l⟩
theorem ERel.mono (l : Le K α H α' H') (h : ERel K α H ρ σ) : ERel K α' H' ρ σ := ⟨h.1, fun i d e => by
  obtain ⟨v, h1, h2⟩ := h.2 i d e
  exact ⟨v, h1, h2.mono l⟩⟩
theorem ERel.set (h : ERel K α H ρ σ) {i : Nat} {d : D} {v : V} (r : Rep K α H d v) : ERel K α H (ρ.set i (some d)) (σ.set i (some v)) := by
  refine ⟨by rw [List.length_set, List.length_set]; exact h.1, fun j e he => ?_⟩
  rw [List.getElem?_set] at he
  rw [List.getElem?_set]
  by_cases hij : i = j
  · subst hij
    rw [if_pos rfl] at he
    rw [if_pos rfl]
    by_cases hl : i < ρ.length
    · rw [if_pos hl] at he
      rw [if_pos (h.1 ▸ hl)]
      cases he
      exact ⟨v, rfl, r⟩
    · rw [if_neg hl] at he
      cases he
  · rw [if_neg hij] at he
    rw [if_neg hij]
    exact h.2 j e he
theorem ERel.unset (h : ERel K α H ρ σ) {i : Nat} : ERel K α H (ρ.set i none) (σ.set i none) := by
  refine ⟨by rw [List.length_set, List.length_set]; exact h.1, fun j e he => ?_⟩
  rw [List.getElem?_set] at he
  rw [List.getElem?_set]
  by_cases hij : i = j
  · subst hij
    rw [if_pos rfl] at he
    by_cases hl : i < ρ.length
    · rw [if_pos hl] at he
      cases he
    · rw [if_neg hl] at he
      cases he
  · rw [if_neg hij] at he
    rw [if_neg hij]
    exact h.2 j e he
/-! lists of data and of values -/
theorem RepL.length : ∀ {ds : List D} {vs : List V}, RepL K α H ds vs → vs.length = ds.length
  | [], vs, h => by
    have e : vs = [] := h
    subst e
    rfl
  | d :: ds, vs, h => by
    obtain ⟨v, r, h1, _, h3⟩ := h
    rw [h1]
    exact congrArg Nat.succ (RepL.length h3)
theorem RepL.get : ∀ {ds : List D} {vs : List V} {i : Nat} {d : D}, RepL K α H ds vs → ds[i]? = some d → ∃ v, vs[i]? = some v ∧ Rep K α H d v
  | [], vs, i, d, h, e => by simp at e
  | d :: ds, vs, 0, e, h, q => by
    obtain ⟨v, r, h1, h2, h3⟩ := h
    simp at q
    subst q
    exact ⟨v, by rw [h1]; rfl, h2⟩
  | d :: ds, vs, i + 1, e, h, q => by
    obtain ⟨v, r, h1, h2, h3⟩ := h
    obtain ⟨u, a, b⟩ := RepL.get (i := i) h3 (by simpa using q)
    exact ⟨u, by rw [h1]; simpa using a, b⟩
theorem RepL.cons {d : D} {v : V} {ds : List D} {vs : List V} (h : Rep K α H d v) (r : RepL K α H ds vs) : RepL K α H (d :: ds) (v :: vs) := ⟨v, vs, rfl, h, r⟩
theorem RepL.append : ∀ {ds es : List D} {vs us : List V}, RepL K α H ds vs → RepL K α H es us → RepL K α H (ds ++ es) (vs ++ us)
  | [], es, vs, us, h, g => by rw [show vs = [] from h]; exact g
  | d :: ds, es, vs, us, h, g => by
    obtain ⟨v, r, h1, h2, h3⟩ := h
    rw [h1]
    exact .cons h2 (RepL.append h3 g)
theorem RepL.take : ∀ {ds : List D} {vs : List V} (n : Nat), RepL K α H ds vs → RepL K α H (ds.take n) (vs.take n)
  | ds, vs, 0, h => by
    show RepL K α H (ds.take 0) (vs.take 0)
    rw [List.take_zero, List.take_zero]
    exact rfl
  | [], vs, n + 1, h => by rw [show vs = [] from h]; exact rfl
  | d :: ds, vs, n + 1, h => by
    obtain ⟨v, r, h1, h2, h3⟩ := h
    rw [h1]
    exact .cons h2 (RepL.take n h3)
theorem RepL.drop : ∀ {ds : List D} {vs : List V} (n : Nat), RepL K α H ds vs → RepL K α H (ds.drop n) (vs.drop n)
  | ds, vs, 0, h => by
    rw [List.drop_zero, List.drop_zero]
    exact h
  | [], vs, n + 1, h => by rw [show vs = [] from h]; exact rfl
  | d :: ds, vs, n + 1, h => by
    obtain ⟨v, r, h1, h2, h3⟩ := h
    rw [h1]
    exact RepL.drop n h3
theorem RepL.reverse {ds : List D} {vs : List V} (h : RepL K α H ds vs) : RepL K α H ds.reverse vs.reverse := by
  induction ds generalizing vs with
  | nil => rw [show vs = [] from h]; exact rfl
  | cons d ds ih =>
    obtain ⟨v, r, h1, h2, h3⟩ := h
    rw [h1, List.reverse_cons, List.reverse_cons]
    exact (ih h3).append (.cons h2 rfl)
theorem RepL.set : ∀ {ds : List D} {vs : List V} (i : Nat) {d : D} {v : V}, RepL K α H ds vs → Rep K α H d v → RepL K α H (ds.set i d) (vs.set i v)
  | [], vs, i, d, v, h, g => by rw [show vs = [] from h]; exact rfl
  | e :: ds, vs, 0, d, v, h, g => by
    obtain ⟨u, r, h1, h2, h3⟩ := h
    rw [h1]
    exact .cons g h3
  | e :: ds, vs, i + 1, d, v, h, g => by
    obtain ⟨u, r, h1, h2, h3⟩ := h
    rw [h1]
    exact .cons h2 (RepL.set i h3 g)
theorem RepL.dropLast : ∀ {ds : List D} {vs : List V}, RepL K α H ds vs → RepL K α H ds.dropLast vs.dropLast
  | [], vs, h => by rw [show vs = [] from h]; exact rfl
  | [d], vs, h => by
    obtain ⟨v, r, h1, h2, h3⟩ := h
    rw [h1, show r = [] from h3]
    exact rfl
  | d :: e :: ds, vs, h => by
    obtain ⟨v, r, h1, h2, h3⟩ := h
    obtain ⟨u, r', g1, g2, g3⟩ := id h3
    rw [h1, g1]
    exact .cons h2 (by rw [← g1]; exact RepL.dropLast h3)
theorem RepL.eraseIdx : ∀ {ds : List D} {vs : List V} (i : Nat), RepL K α H ds vs → RepL K α H (ds.eraseIdx i) (vs.eraseIdx i)
  | [], vs, i, h => by rw [show vs = [] from h]; exact rfl
  | d :: ds, vs, 0, h => by
    obtain ⟨v, r, h1, h2, h3⟩ := h
    rw [h1]
    exact h3
  | d :: ds, vs, i + 1, h => by
    obtain ⟨v, r, h1, h2, h3⟩ := h
    rw [h1]
    exact .cons h2 (RepL.eraseIdx i h3)
theorem RepL.ints : ∀ {ns : List Int} {vs : List V}, RepL K α H (ns.map D.int) vs ↔ vs = ns.map V.int
  | [], vs => Iff.rfl
  | n :: ns, vs => by
    constructor
    · intro h
      obtain ⟨v, r, h1, h2, h3⟩ := h
      rw [h1, show v = .int n from h2, RepL.ints.mp h3]
      rfl
    · intro h
      exact ⟨.int n, ns.map V.int, h, rfl, RepL.ints.mpr rfl⟩
theorem RepL.strs : ∀ {ns : List Str} {vs : List V}, RepL K α H (ns.map D.str) vs ↔ vs = ns.map V.str
  | [], vs => Iff.rfl
  | n :: ns, vs => by
    constructor
    · intro h
      obtain ⟨v, r, h1, h2, h3⟩ := h
      rw [h1, show v = .str n from h2, RepL.strs.mp h3]
      rfl
    · intro h
      exact ⟨.str n, ns.map V.str, h, rfl, RepL.strs.mpr rfl⟩

/-! ### the store under changes of the heap -/
theorem ORel.monoT (l : LeT K α H α' H') {o : O} {a : Addr} (hs : ∀ u, H a = some u → H' a = some u) (h : ORel K α H o a) : ORel K α' H' o a := by
  cases o with
  | lst ds =>
    obtain ⟨vs, h1, h2⟩ := h
    exact ⟨vs, hs _ h1, h2.monoT l⟩
  | scr ds =>
    obtain ⟨vs, h1, h2⟩ := h
    refine ⟨vs, ?_, h2.monoT l⟩
    rcases h1 with ⟨o, h1⟩ | h1
    · exact .inl ⟨o, hs _ h1⟩
    · exact .inr h1
  | dk kvs =>
    obtain ⟨kv, h1, h2⟩ := h
    exact ⟨kv, hs _ h1, h2.monoT l⟩
  | lk kvs =>
    obtain ⟨kv, ob, h1, h2⟩ := h
    exact ⟨kv, ob, hs _ h1, h2.monoT l⟩
  | ins c fs =>
    obtain ⟨dx, fv, h1, h2⟩ := h
    exact ⟨dx, fv, hs _ h1, h2.monoT l⟩
  | tab x =>
    obtain ⟨h0, ps, h1, h2, h3⟩ := h
    refine ⟨h0, ps, hs _ h1, h2, fun pos cv hc => ?_⟩
    obtain ⟨c, e1, e2⟩ := h3 pos cv hc
    exact ⟨c, e1, l.code _ _ e2⟩
  | xd fs =>
    obtain ⟨fv, h1, h2⟩ := h
    exact ⟨fv, hs _ h1, h2.monoT l⟩
  | dt kvs =>
    obtain ⟨kv, h1, h2⟩ := h
    exact ⟨kv, hs _ h1, h2.monoT l⟩
theorem ORel.mono (l : Le K α H α' H') {o : O} {a : Addr} (hs : ∀ u, H a = some u → H' a = some u) (h : ORel K α H o a) : ORel K α' H' o a := ORel.monoT l.toLeT hs h
/-- a new thing beside: tuples stay -/
theorem Le.new {p : Addr} {o : HO} (h : H p = none) : Le K α H α (upd H p o) := ⟨⟨⟨[], by simp⟩, fun a vs q => by
  rcases q with (q | ⟨z, q⟩) | q
  · exact .inl (.inl (by rw [upd_ne (ne_of_none q h)]; exact q))
  · exact .inl (.inr ⟨z, by rw [upd_ne (ne_of_none q h)]; exact q⟩)
  · exact .inr q, fun c z q => by rw [upd_ne (ne_of_none q h)]; exact q⟩, fun a ob kv q => by rw [upd_ne (ne_of_none q h)]; exact q⟩
theorem Le.grow (a : Addr) : Le K α H (α ++ [a]) H := ⟨⟨⟨[a], rfl⟩, fun _ _ h => h, fun _ _ h => h⟩, fun _ _ _ h => h⟩
/-- a thing that may change is changed -/
theorem LeT.write {p : Addr} {o u : HO} (h : H p = some u) (hm : ∀ xs, u ≠ .tup xs) (hf : ∀ ob xs, u ≠ .frz ob (.tup xs)) (hc : ∀ c q, u ≠ LamX.CodeO c q := by intro c q z; unfold LamX.CodeO at z; cases z) : LeT K α H α (upd H p o) := ⟨⟨[], by simp⟩, fun a vs q => by
  rcases q with (q | ⟨z, q⟩) | q
  · refine .inl (.inl ?_)
    rw [upd_ne (ne_of q h fun e => hm vs e.symm)]
    exact q
  · refine .inl (.inr ⟨z, ?_⟩)
    rw [upd_ne (ne_of q h fun e => hf _ _ e.symm)]
    exact q
  · exact .inr q, fun c z q => by
  rw [upd_ne (ne_of q h fun e => hc _ _ e.symm)]
  exact q⟩
theorem Le.write {p : Addr} {o u : HO} (h : H p = some u) (hm : ∀ xs, u ≠ .tup xs) (hf : ∀ ob w, u ≠ .frz ob w) (hc : ∀ c q, u ≠ LamX.CodeO c q := by intro c q z; unfold LamX.CodeO at z; cases z) : Le K α H α (upd H p o) := ⟨LeT.write h hm (fun ob xs => hf ob _) hc, fun a ob kv q => by
  rw [upd_ne (ne_of q h fun e => hf _ _ e.symm)]
  exact q⟩
theorem SOk.new {p : Addr} {o : HO} (S : SOk K α H s) (h : H p = none) : SOk K α (upd H p o) s := ⟨S.len, fun n ob e => by
  obtain ⟨a, h1, h2⟩ := S.at_ n ob e
  exact ⟨a, h1, h2.mono (Le.new h) fun u q => by rw [upd_ne (ne_of_none q h)]; exact q⟩, S.nd⟩
/-- a new object -/
theorem SOk.alloc {p : Addr} {u : HO} {o : O} (S : SOk K α H s) (h : H p = none) (hm : ∀ α' H', Le K α H α' H' → H' p = some u → ORel K α' H' o p) : SOk K (α ++ [p]) (upd H p u) (s ++ [o]) ∧ Le K α H (α ++ [p]) (upd H p u) := by
  have l1 : Le K α H (α ++ [p]) (upd H p u) := (Le.new h).trans (Le.grow p)
  refine ⟨⟨by rw [List.length_append, List.length_append, S.len]; rfl, fun n ob e => ?_, fun m n om on a hmn em en mm mn am an => ?_⟩, l1⟩
  · rcases Nat.lt_or_ge n s.length with hn | hn
    · rw [List.getElem?_append_left hn] at e
      obtain ⟨a, h1, h2⟩ := S.at_ n ob e
      refine ⟨a, l1.get h1, h2.mono l1 fun z q => by rw [upd_ne (ne_of_none q h)]; exact q⟩
    · rw [List.getElem?_append_right hn] at e
      have hz : n - s.length = 0 := by
        rcases Nat.eq_zero_or_pos (n - s.length) with z | z
        · exact z
        · rw [List.getElem?_eq_none (show ([o] : List O).length ≤ n - s.length from z)] at e
          cases e
      rw [hz] at e
      have eo : o = ob := by simpa using e
      subst eo
      refine ⟨p, ?_, hm _ _ l1 upd_same⟩
      rw [List.getElem?_append_right (by rw [S.len]; exact hn), S.len, hz]
      rfl
  · -- addresses differ
    have old : ∀ i oi b, i < s.length → (s ++ [o])[i]? = some oi → mutb oi = true → (α ++ [p])[i]? = some b → b ≠ p := fun i oi b hi ei mi bi z => by
      rw [List.getElem?_append_left hi] at ei
      rw [List.getElem?_append_left (by rw [S.len]; exact hi)] at bi
      obtain ⟨a', h1, h2⟩ := S.at_ i oi ei
      rw [bi] at h1
      cases h1
      subst z
      cases oi with
      | scr ds => cases mi
      | xd fs => cases mi
      | lst ds => obtain ⟨vs, q, _⟩ := h2; rw [h] at q; cases q
      | dk ds => obtain ⟨vs, q, _⟩ := h2; rw [h] at q; cases q
      | lk ds => obtain ⟨vs, ob, q, _⟩ := h2; rw [h] at q; cases q
      | ins c fs => obtain ⟨dx, fv, q, _⟩ := h2; rw [h] at q; cases q
      | tab x => obtain ⟨_, ps, q, _⟩ := h2; rw [h] at q; cases q
      | dt ds => obtain ⟨vs, q, _⟩ := h2; rw [h] at q; cases q
    have top : ∀ i oi, ¬ i < s.length → (s ++ [o])[i]? = some oi → i = s.length := fun i oi hi ei => by
      have := (List.getElem?_eq_some_iff.mp ei).1
      rw [List.length_append, List.length_singleton] at this
      omega
    have atp : (α ++ [p])[s.length]? = some p := by
      rw [List.getElem?_append_right (by rw [S.len]; exact Nat.le_refl _), S.len, Nat.sub_self]
      rfl
    by_cases h1 : m < s.length
    · by_cases h2 : n < s.length
      · rw [List.getElem?_append_left h1] at em
        rw [List.getElem?_append_left h2] at en
        rw [List.getElem?_append_left (by rw [S.len]; exact h1)] at am
        rw [List.getElem?_append_left (by rw [S.len]; exact h2)] at an
        exact S.nd m n om on a hmn em en mm mn am an
      · have := top n on h2 en
        subst this
        rw [atp] at an
        exact old m om a h1 em mm am (Option.some.inj an).symm
    · have e1 := top m om h1 em
      subst e1
      rw [atp] at am
      have h2 : n < s.length := by
        rcases Nat.lt_or_ge n s.length with z | z
        · exact z
        · exact absurd (top n on (Nat.not_lt.mpr z) en).symm hmn
      exact old n on a h2 en mn an (Option.some.inj am).symm
/-- an object is changed -/
theorem SOk.writeT {n : Nat} {p : Addr} {u u' : HO} {o o' : O} (S : SOk K α H s) (e : s[n]? = some o) (ea : α[n]? = some p) (h : H p = some u) (mo : mutb o = true) (mo' : mutb o' = true) (hm : ∀ xs, u ≠ .tup xs) (hf : ∀ ob xs, u ≠ .frz ob (.tup xs)) (hf2 : ∀ ob xs, u ≠ .frz ob (.lst xs))
    (new : ∀ H', LeT K α H α H' → H' p = some u' → ORel K α H' o' p) (hc : ∀ c q, u ≠ LamX.CodeO c q := by intro c q z; unfold LamX.CodeO at z; cases z) (hx : ∀ fs, u ≠ .xd fs := by intro fs z; cases z) : SOk K α (upd H p u') (s.set n o') ∧ LeT K α H α (upd H p u') := by
  have l1 : LeT K α H α (upd H p u') := LeT.write h hm hf hc
  have hn : n < s.length := (List.getElem?_eq_some_iff.mp e).1
  refine ⟨⟨by rw [List.length_set]; exact S.len, fun m ob em => ?_, fun m k om ok a hmk em ek mm mk am ak => ?_⟩, l1⟩
  · rw [List.getElem?_set] at em
    by_cases hnm : n = m
    · subst hnm
      rw [if_pos rfl, if_pos hn] at em
      cases em
      exact ⟨p, ea, new _ l1 upd_same⟩
    · rw [if_neg hnm] at em
      obtain ⟨a, h1, h2⟩ := S.at_ m ob em
      refine ⟨a, h1, ?_⟩
      have keep : mutb ob = true → ORel K α (upd H p u') ob a := fun mb => h2.monoT l1 fun z q => by
        have z3 : a ≠ p := fun z2 => S.nd m n _ _ a (Ne.symm hnm) em e mb mo h1 (z2.symm ▸ ea)
        rw [upd_ne z3]
        exact q
      cases ob with
      | scr ds =>
        obtain ⟨vs, g1, g2⟩ := h2
        rcases g1 with ⟨ob2, g1⟩ | g1
        · exact ⟨vs, .inl ⟨ob2, by rw [upd_ne (ne_of g1 h fun z => hf2 _ _ z.symm)]; exact g1⟩, g2.monoT l1⟩
        · exact ⟨vs, .inr g1, g2.monoT l1⟩
      | lst ds => exact keep rfl
      | dk ds => exact keep rfl
      | lk ds => exact keep rfl
      | ins c fs => exact keep rfl
      | tab x => exact keep rfl
      | dt ds => exact keep rfl
      | xd fs =>
        obtain ⟨fv, g1, g2⟩ := h2
        exact ⟨fv, by rw [upd_ne (ne_of g1 h fun z => hx _ z.symm)]; exact g1, g2.monoT l1⟩
  · rw [List.getElem?_set] at em ek
    have get : ∀ j oj, (if n = j then if n < s.length then some o' else none else s[j]?) = some oj → ∃ z, s[j]? = some z ∧ (mutb oj = true → mutb z = true) := fun j oj q => by
      by_cases hj : n = j
      · subst hj
        exact ⟨o, e, fun _ => mo⟩
      · rw [if_neg hj] at q
        exact ⟨oj, q, id⟩
    obtain ⟨z1, g1, g2⟩ := get m om em
    obtain ⟨z2, k1, k2⟩ := get k ok ek
    exact S.nd m k z1 z2 a hmk g1 k1 (g2 mm) (k2 mk) am ak
theorem SOk.write {n : Nat} {p : Addr} {u u' : HO} {o o' : O} (S : SOk K α H s) (e : s[n]? = some o) (ea : α[n]? = some p) (h : H p = some u) (mo : mutb o = true) (mo' : mutb o' = true) (hm : ∀ xs, u ≠ .tup xs) (hf : ∀ ob w, u ≠ .frz ob w)
    (new : ∀ H', LeT K α H α H' → H' p = some u' → ORel K α H' o' p) (hc : ∀ c q, u ≠ LamX.CodeO c q := by intro c q z; unfold LamX.CodeO at z; cases z) (hx : ∀ fs, u ≠ .xd fs := by intro fs z; cases z) : SOk K α (upd H p u') (s.set n o') ∧ Le K α H α (upd H p u') := by
  obtain ⟨S1, l1⟩ := SOk.writeT S e ea h mo mo' hm (fun ob xs => hf ob _) (fun ob xs => hf ob _) new hc hx
  exact ⟨S1, Le.write h hm hf hc⟩
/-- a dict is locked -/
theorem SOk.lock {n : Nat} {p : Addr} {od : Obj} {l : List (Key × D)} {kv : List (Key × V)} (S : SOk K α H s) (e : s[n]? = some (.dk l)) (ea : α[n]? = some p) (h : H p = some (.dK kv)) (r : RepF K α H l kv) :
    SOk K α (upd H p (.frz od (.dK kv))) (s.set n (.lk l)) ∧ Le K α H α (upd H p (.frz od (.dK kv))) :=
  SOk.write S e ea h rfl rfl (fun _ z => by cases z) (fun _ _ z => by cases z) fun H' l z => ⟨kv, od, z, r.monoT l⟩
/-- .. and free again -/
theorem SOk.unlock {n : Nat} {p : Addr} {od : Obj} {l : List (Key × D)} {kv : List (Key × V)} (S : SOk K α H s) (e : s[n]? = some (.lk l)) (ea : α[n]? = some p) (h : H p = some (.frz od (.dK kv))) :
    SOk K α (upd H p (.dK kv)) (s.set n (.dk l)) ∧ LeT K α H α (upd H p (.dK kv)) := by
  obtain ⟨a, h1, h2⟩ := S.at_ n _ e
  rw [ea] at h1
  cases h1
  obtain ⟨kv', ob, q1, q2⟩ := h2
  rw [h] at q1
  cases q1
  exact SOk.writeT S e ea h rfl rfl (fun _ z => by cases z) (fun _ _ z => by cases z) (fun _ _ z => by cases z) fun H' l z => ⟨kv, z, q2.monoT l⟩
end PD

/-! Pd1: what a reading refines; expressions. -/
namespace PD
open PySem L2

/-! ### results against continuations -/
def XRep (K : PySem.W.Frag) (α : List Addr) (H : Hp) (e : Exn) (c : Value) (dd : Option Addr) : Prop :=
  c = .ref (He.ga K e.cls) ∧ match e.fs, dd with
    | none, none => True
    | some l, some a => ∃ fv, H a = some (.xd fv) ∧ RepF K α H l fv
    | _, _ => False
def Post {β γ : Type} (K : PySem.W.Frag) (rel : List Addr → Hp → β → γ → Prop) (W : WX) (α : List Addr) (H : Hp) (σ : L2.St) (r : Res β) (Q : γ → Hp → Prop) : Prop := match r with
  | .ok d s => ∀ v α' H', Le K α H α' H' → SOk K α' H' s → rel α' H' d v → Q v H'
  | .err e s => ∀ c dd α' H', Le K α H α' H' → SOk K α' H' s → XRep K α' H' e c dd → W c dd σ H'
  | .bad => False
/-- values alone: nothing is raised -/
def PV {β γ : Type} (K : PySem.W.Frag) (rel : List Addr → Hp → β → γ → Prop) (α : List Addr) (H : Hp) (r : Res β) (Q : γ → Hp → Prop) : Prop := match r with
  | .ok d s => ∀ v α' H', Le K α H α' H' → SOk K α' H' s → rel α' H' d v → Q v H'
  | _ => False
def rB (_ : List Addr) (_ : Hp) (a b : Bool) : Prop := b = a
section
variable {K : PySem.W.Frag} {α α' α1 α2 : List Addr} {H H' H1 H2 : Hp} {s s' s1 s2 : Sto} {ρ ρ' : En} {σ σ' : L2.St} {W : WX}
theorem Post.mono {β γ : Type} {rel : List Addr → Hp → β → γ → Prop} {r : Res β} {Q : γ → Hp → Prop} (l : Le K α H α1 H1) (h : Post K rel W α H σ r Q) : Post K rel W α1 H1 σ r Q := by
  cases r with
  | ok d s => exact fun v α' H' l1 S R => h v α' H' (l.trans l1) S R
  | err e s => exact fun c dd α' H' l1 S R => h c dd α' H' (l.trans l1) S R
  | bad => exact h
theorem PV.mono {β γ : Type} {rel : List Addr → Hp → β → γ → Prop} {r : Res β} {Q : γ → Hp → Prop} (l : Le K α H α1 H1) (h : PV K rel α H r Q) : PV K rel α1 H1 r Q := by
  cases r with
  | ok d s => exact fun v α' H' l1 S R => h v α' H' (l.trans l1) S R
  | err e s => exact h
  | bad => exact h
theorem Post.bind {β γ β' γ' : Type} {rel : List Addr → Hp → β → γ → Prop} {rel' : List Addr → Hp → β' → γ' → Prop} {r : Res β} {k : β → Sto → Res β'} {Q : γ' → Hp → Prop} {Q' : γ → Hp → Prop} (h : Post K rel' W α H σ (r.bind k) Q)
    (hk : ∀ d s1 v α1 H1, Le K α H α1 H1 → SOk K α1 H1 s1 → rel α1 H1 d v → Post K rel' W α1 H1 σ (k d s1) Q → Q' v H1) : Post K rel W α H σ r Q' := by
  cases r with
  | ok d s => exact fun v α' H' l S R => hk d s v α' H' l S R (Post.mono (r := k d s) l h)
  | err e s => exact h
  | bad => exact h
/-- what can't raise -/
def Res.still {β : Type} (r : Res β) : Res β := match r with
  | .err _ _ => .bad
  | r => r
theorem Post.still {β γ : Type} {rel : List Addr → Hp → β → γ → Prop} {r : Res β} {Q : γ → Hp → Prop} (h : Post K rel W α H σ r.still Q) : PV K rel α H r Q := by
  cases r with
  | ok d s => exact h
  | err e s => exact h
  | bad => exact h
end
/-! ### readings that refine functions over data -/
def RefE (K : PySem.W.Frag) (W : WX) (t : TE) (g : GE) : Prop := ∀ ρ s σ α H Q, ERel K α H ρ σ → SOk K α H s → Post K (Rep K) W α H σ (g ρ s) Q → t σ H Q
def RefT (K : PySem.W.Frag) (W : WX) (t : TT) (g : GT) : Prop := ∀ ρ s σ α H Q, ERel K α H ρ σ → SOk K α H s → Post K rB W α H σ (g ρ s) Q → t σ H Q
def RefA (K : PySem.W.Frag) (W : WX) (t : TA) (g : GA) : Prop := ∀ ρ s σ α H Q, ERel K α H ρ σ → SOk K α H s → Post K (RepL K) W α H σ (g ρ s) Q → t σ H Q
def JE (X : Cx) (W : WX) (e : Expr) (g : GE) : Prop := ∃ t, PE X e t ∧ RefE X.K W t g
def JT (X : Cx) (W : WX) (e : Expr) (g : GT) : Prop := ∃ t, PT X e t ∧ RefT X.K W t g
def JW (X : Cx) (W : WX) (e : Expr) (g : GT) : Prop := ∃ t, PW X e t ∧ RefT X.K W t g
def JA (X : Cx) (W : WX) (es : List Expr) (g : GA) : Prop := ∃ t, PA X es t ∧ RefA X.K W t g
/-- an operation on two values -/
abbrev Op2 := D → D → Sto → Res D
def RefO (K : PySem.W.Frag) (r : R2) (op : Op2) : Prop := ∀ x y d e α H s Q, SOk K α H s → Rep K α H d x → Rep K α H e y → PV K (Rep K) α H (op d e s) Q → r x y H Q
def JO (X : Cx) (f : Value → Value → Sem Value) (op : Op2) : Prop := ∃ r, OpR X f r ∧ RefO X.K r op
/-- the first of two that answers -/
def Res.or {β : Type} (r r' : Res β) : Res β := match r with
  | .bad => r'
  | r => r
def op2or (f g : Op2) : Op2 := fun d e s => (f d e s).or (g d e s)
section
variable {X : Cx} {W : WX} {K : PySem.W.Frag} {α α' : List Addr} {H H' : Hp} {s s' : Sto}
theorem PV.or {β γ : Type} {rel : List Addr → Hp → β → γ → Prop} {r r' : Res β} {Q : γ → Hp → Prop} (h : PV K rel α H (r.or r') Q) : PV K rel α H r Q ∨ PV K rel α H r' Q := by
  cases r with
  | ok d s => exact .inl h
  | err e s => exact h.elim
  | bad => exact .inr h
theorem JO.or {f : Value → Value → Sem Value} {a b : Op2} (ha : JO X f a) (hb : JO X f b) : JO X f (op2or a b) := by
  obtain ⟨r, p, q⟩ := ha
  obtain ⟨r', p', q'⟩ := hb
  refine ⟨_, p.or p', fun x y d e α H s Q S R1 R2 h => ?_⟩
  rcases PV.or h with h | h
  · exact .inl (q x y d e α H s Q S R1 R2 h)
  · exact .inr (q' x y d e α H s Q S R1 R2 h)
/-- a value that is told at once -/
theorem PV.here {β γ : Type} {rel : List Addr → Hp → β → γ → Prop} {d : β} {v : γ} {Q : γ → Hp → Prop} (h : PV K rel α H (.ok d s) Q) (S : SOk K α H s) (r : rel α H d v) : Q v H := h v α H Le.refl S r
theorem Post.here {β γ : Type} {rel : List Addr → Hp → β → γ → Prop} {σ : L2.St} {d : β} {v : γ} {Q : γ → Hp → Prop} (h : Post K rel W α H σ (.ok d s) Q) (S : SOk K α H s) (r : rel α H d v) : Q v H := h v α H Le.refl S r

/-! ### names, constants -/
def gVar (i : Nat) : GE := fun ρ s => match ρ[i]? with
  | some (some d) => .ok d s
  | _ => .bad
def gC (d : D) : GE := fun _ s => .ok d s
variable {e a b c : Expr} {es : List Expr} {ga gb gc : GE} {g : GE} {pos : Pos}
theorem je_var (i : Nat) {x : Str} {pos : Pos} (hN : X.N[i]? = some x := by rfl) (hv : Vis X.env.scope x := by first | exact Or.inl rfl | exact Or.inr (Or.inl rfl) | exact Or.inr (Or.inr rfl)) (hd : (x == ("__debug__" : Str)) = false := by decide) (hcd : (x == ("__classdict__" : Str)) = false := by decide) :
    JE X W (.Name x pos) (gVar i) := ⟨_, pe_var hN hv hd hcd, fun ρ s σ α H Q E S h => by
  unfold gVar at h
  cases e : ρ[i]? with
  | none => rw [e] at h; exact h.elim
  | some o =>
    rw [e] at h
    cases o with
    | none => exact h.elim
    | some d =>
      obtain ⟨v, h1, h2⟩ := E.2 i d e
      exact ⟨v, h1, h.here S h2⟩⟩
theorem je_int {i j pos} : JE X W (.Constant (.int i) j pos) (gC (.int i)) := ⟨_, pe_int, fun ρ s σ α H Q E S h => h.here S rfl⟩
theorem je_bl {i j pos} : JE X W (.Constant (.bool i) j pos) (gC (.bl i)) := ⟨_, pe_bl, fun ρ s σ α H Q E S h => h.here S rfl⟩
theorem je_non {j pos} : JE X W (.Constant .none j pos) (gC .non) := ⟨_, pe_non, fun ρ s σ α H Q E S h => h.here S rfl⟩
theorem je_str {i j pos} : JE X W (.Constant (.str i) j pos) (gC (.str i)) := ⟨_, pe_str, fun ρ s σ α H Q E S h => h.here S rfl⟩
/-! ### operators -/
def gOp (op : Op2) (a b : GE) : GE := fun ρ s => (a ρ s).bind fun x s1 => (b ρ s1).bind fun y s2 => op x y s2
theorem ref_op {ta tb : TE} {r : R2} {op : Op2} (ha : RefE K W ta ga) (hb : RefE K W tb gb) (hr : ∀ x y d e α H s σ Q, SOk K α H s → Rep K α H d x → Rep K α H e y → Post K (Rep K) W α H σ (op d e s) Q → r x y H Q) : RefE K W (tOp r ta tb) (gOp op ga gb) := fun ρ s σ α H Q E S h => by
  refine ha ρ s σ α H _ E S (Post.bind h fun d s1 v α1 H1 l1 S1 R1 h1 => ?_)
  refine hb ρ s1 σ α1 H1 _ (E.mono l1) S1 (Post.bind h1 fun d2 s2 v2 α2 H2 l2 S2 R2 h2 => ?_)
  exact hr v v2 d d2 α2 H2 s2 σ Q S2 (R1.mono l2) R2 h2
/-- an operation that raises nothing -/
def quiet (op : Op2) : Op2 := fun d e s => (op d e s).still
theorem je_op {op : Operator} {o : Op2} (ho : JO X (binaryOp op) o) (ha : JE X W a ga) (hb : JE X W b gb) : JE X W (.BinOp a op b pos) (gOp (quiet o) ga gb) := by
  obtain ⟨r, p, q⟩ := ho
  obtain ⟨ta, pa, qa⟩ := ha
  obtain ⟨tb, pb, qb⟩ := hb
  exact ⟨_, pe_op p pa pb, ref_op qa qb fun x y d e α H s σ Q S R1 R2 h => q x y d e α H s Q S R1 R2 (Post.still h)⟩
theorem je_cmp {op : CmpOp} {o : Op2} (ho : JO X (compareOp op) o) (ha : JE X W a ga) (hb : JE X W b gb) (hm : behindInMarks op b = false) : JE X W (.Compare a [op] [b] pos) (gOp (quiet o) ga gb) := by
  obtain ⟨r, p, q⟩ := ho
  obtain ⟨ta, pa, qa⟩ := ha
  obtain ⟨tb, pb, qb⟩ := hb
  exact ⟨_, pe_cmpR p pa pb hm, ref_op qa qb fun x y d e α H s σ Q S R1 R2 h => q x y d e α H s Q S R1 R2 (Post.still h)⟩
def gUn (op : D → Sto → Res D) (a : GE) : GE := fun ρ s => (a ρ s).bind fun x s1 => op x s1
def negD : D → Sto → Res D
  | .int i, s => .ok (.int (-i)) s
  | _, _ => .bad
/-- two ints in, one value out, under a condition that is decided -/
def iOp (C : Int → Int → Bool) (g : Int → Int → D) : Op2 := fun x y s => match x, y with
  | .int i, .int j => if C i j then .ok (g i j) s else .bad
  | _, _ => .bad
def iOp0 (g : Int → Int → D) : Op2 := fun x y s => match x, y with
  | .int i, .int j => .ok (g i j) s
  | _, _ => .bad
theorem jo_i {f : Value → Value → Sem Value} {C : Int → Int → Prop} {Cb : Int → Int → Bool} {g : Int → Int → V} {gD : Int → Int → D} (ho : OpR X f (rI C g)) (hC : ∀ i j, Cb i j = true → C i j) (hg : ∀ i j α H, Rep X.K α H (gD i j) (g i j)) : JO X f (iOp Cb gD) :=
  ⟨_, ho, fun x y d e α H s Q S R1 R2 h => by
    cases d with
    | int i =>
      cases e with
      | int j =>
        cases R1
        cases R2
        have h' : PV X.K (Rep X.K) α H (if Cb i j then .ok (gD i j) s else .bad) Q := h
        cases hc : Cb i j with
        | true =>
          rw [hc, if_pos rfl] at h'
          exact ⟨i, j, rfl, rfl, hC i j hc, h'.here S (hg i j α H)⟩
        | false =>
          rw [hc, if_neg Bool.false_ne_true] at h'
          exact h'.elim
      | _ => exact h.elim
    | _ => exact h.elim⟩
theorem jo_i0 {f : Value → Value → Sem Value} {g : Int → Int → V} {gD : Int → Int → D} (ho : OpR X f (rI0 g)) (hg : ∀ i j α H, Rep X.K α H (gD i j) (g i j)) : JO X f (iOp0 gD) :=
  ⟨_, ho, fun x y d e α H s Q S R1 R2 h => by
    cases d with
    | int i =>
      cases e with
      | int j =>
        cases R1
        cases R2
        have h' : PV X.K (Rep X.K) α H (.ok (gD i j) s) Q := h
        exact ⟨i, j, rfl, rfl, h'.here S (hg i j α H)⟩
      | _ => exact h.elim
    | _ => exact h.elim⟩
/-! the size of a text, a list: a line that all of them keep -/
abbrev line : Nat := 1000000
theorem line_ok {n : Nat} (h : decide (n ≤ line) = true) : n ≤ sizeLine := Nat.le_trans (of_decide_eq_true h) (by decide)
def addStr : Op2 := fun x y s => match x, y with
  | .str i, .str j => if decide (i.length + j.length ≤ line) then .ok (.str (i ++ j)) s else .bad
  | _, _ => .bad
theorem jo_addStr : JO X (binaryOp .Add) addStr := ⟨_, op_add_str, fun x y d e α H s Q S R1 R2 h => by
  cases d with
  | str i =>
    cases e with
    | str j =>
      cases R1
      cases R2
      have h' : PV X.K (Rep X.K) α H (if decide (i.length + j.length ≤ line) then .ok (.str (i ++ j)) s else .bad) Q := h
      cases hc : decide (i.length + j.length ≤ line) with
      | true =>
        rw [hc, if_pos rfl] at h'
        exact ⟨i, j, rfl, rfl, line_ok hc, h'.here S rfl⟩
      | false =>
        rw [hc, if_neg Bool.false_ne_true] at h'
        exact h'.elim
    | _ => exact h.elim
  | _ => exact h.elim⟩
def addTup : Op2 := fun x y s => match x, y with
  | .tup i, .tup j => if decide (i.length + j.length ≤ line) then .ok (.tup (i ++ j)) s else .bad
  | _, _ => .bad
theorem jo_addTup : JO X (binaryOp .Add) addTup := ⟨_, op_catA, fun x y d e α H s Q S R1 R2 h => by
  cases d with
  | tup i =>
    cases e with
    | tup j =>
      obtain ⟨a, vs, rfl, hA, rA⟩ := R1
      obtain ⟨b, us, rfl, hB, rB⟩ := R2
      have h' : PV X.K (Rep X.K) α H (if decide (i.length + j.length ≤ line) then .ok (.tup (i ++ j)) s else .bad) Q := h
      cases hc : decide (i.length + j.length ≤ line) with
      | true =>
        rw [hc, if_pos rfl] at h'
        refine ⟨a, b, vs, us, rfl, rfl, hA, hB, by rw [rA.length, rB.length]; exact line_ok hc, fun e => ?_, fun _ e => ?_, fun _ _ p hp => ?_⟩
        · refine h'.here S ⟨b, us, rfl, hB, ?_⟩
          have := RepL.append rA rB
          rw [e] at this
          exact this
        · refine h'.here S ⟨a, vs, rfl, hA, ?_⟩
          have := RepL.append rA rB
          rw [e, List.append_nil] at this
          exact this
        · exact h' _ α _ (Le.new hp) (S.new hp) ⟨p, _, rfl, SqT.of upd_same, (RepL.append rA rB).mono (Le.new hp)⟩
      | false =>
        rw [hc, if_neg Bool.false_ne_true] at h'
        exact h'.elim
    | _ => exact h.elim
  | _ => exact h.elim⟩
/-- a new object behind the store -/
def newO (o : O) (s : Sto) : Res D := .ok (.ref s.length) (s ++ [o])
theorem new_lst {p : Addr} {ds : List D} {vs : List V} (S : SOk K α H s) (hp : H p = none) (r : RepL K α H ds vs) {Q : V → Hp → Prop} (h : PV K (Rep K) α H (newO (.lst ds) s) Q) : Q (.ref p) (upd H p (.lst vs)) := by
  obtain ⟨S1, l1⟩ := S.alloc (o := .lst ds) (u := .lst vs) hp fun α' H' l q => ⟨vs, q, r.mono l⟩
  refine h _ _ _ l1 S1 ⟨p, ?_, rfl⟩
  rw [← S.len, List.getElem?_append_right (Nat.le_refl _), Nat.sub_self]
  rfl
def lst? (s : Sto) (n : Nat) : Option (List D) := match s[n]? with
  | some (.lst l) => some l
  | _ => none
theorem SOk.lst {n : Nat} {l : List D} (S : SOk K α H s) (h : lst? s n = some l) {v : V} (r : Rep K α H (.ref n) v) : ∃ a vs, v = .ref a ∧ α[n]? = some a ∧ s[n]? = some (.lst l) ∧ H a = some (.lst vs) ∧ RepL K α H l vs := by
  unfold lst? at h
  cases e : s[n]? with
  | none => rw [e] at h; cases h
  | some o =>
    rw [e] at h
    cases o with
    | lst l' =>
      cases h
      obtain ⟨a, h1, h2⟩ := S.at_ n _ e
      obtain ⟨b, g1, g2⟩ := r
      rw [h1] at g1
      cases g1
      obtain ⟨vs, q1, q2⟩ := h2
      exact ⟨_, vs, g2, h1, rfl, q1, q2⟩
    | _ => cases h
/-- a list that may be read: the script too -/
def seq? (s : Sto) (n : Nat) : Option (List D) := match s[n]? with
  | some (.lst l) => some l
  | some (.scr l) => some l
  | _ => none
theorem SOk.seq {n : Nat} {l : List D} (S : SOk K α H s) (h : seq? s n = some l) {v : V} (r : Rep K α H (.ref n) v) : ∃ a vs, v = .ref a ∧ SqL K H a vs ∧ RepL K α H l vs := by
  unfold seq? at h
  cases e : s[n]? with
  | none => rw [e] at h; cases h
  | some o =>
    rw [e] at h
    obtain ⟨a, h1, h2⟩ := S.at_ n _ e
    obtain ⟨b, g1, g2⟩ := r
    rw [h1] at g1
    cases g1
    cases o with
    | lst l' =>
      cases h
      obtain ⟨vs, q1, q2⟩ := h2
      exact ⟨_, vs, g2, SqL.of q1, q2⟩
    | scr l' =>
      cases h
      obtain ⟨vs, q1, q2⟩ := h2
      refine ⟨_, vs, g2, ?_, q2⟩
      rcases q1 with ⟨o, q1⟩ | q1
      · exact .inl (.inr ⟨o, q1⟩)
      · exact .inr q1
    | _ => cases h
def addLst : Op2 := fun x y s => match x, y with
  | .ref m, .ref n => (match seq? s m, seq? s n with
    | some a, some b => if decide (a.length + b.length ≤ line) then newO (.lst (a ++ b)) s else .bad
    | _, _ => .bad)
  | _, _ => .bad
/-- two lists, locked or written ones too -/
def rCatL (K : PySem.W.Frag) : R2 := fun x y H Q => ∃ l b xs zs, x = .ref l ∧ y = .ref b ∧ SqL K H l xs ∧ SqL K H b zs ∧ xs.length + zs.length ≤ sizeLine ∧ ∀ p, H p = none → Q (.ref p) (upd H p (.lst (xs ++ zs)))
theorem op_catL : OpR X (binaryOp .Add) (rCatL X.K) := by
  intro pins sh σ H x y v u Q I rx ry h
  obtain ⟨l, b, xs, zs, rfl, rfl, hl, hb, hz, q⟩ := h
  cases rx
  cases ry
  obtain ⟨its, r, ⟨⟨c1, d1, t1, sl1⟩, n1, o1, e1, e2, e3⟩, _⟩ := I.list hl
  obtain ⟨its2, r2, ⟨⟨c2, d2, t2, sl2⟩, n2, o2, f1, f2, f3⟩, _⟩ := I.list hb
  dsimp only at e1 e2 e3 f1 f2 f3
  subst e1 e2 e3 f1 f2 f3
  have hlen : its.toArray.size + its2.toArray.size ≤ sizeLine := by
    rw [List.size_toArray, List.size_toArray, ← r.length, ← r2.length]
    exact hz
  refine concat_meets ⟨_, o1, rfl⟩ ⟨_, o2, rfl⟩ noFill_list_add seq_list_add PySem.F.slot_list_add PySem.F.entry_list_add (PySem.F.args_list_add_2 _ _) (PyProof.Rows.list_addW l b its.toArray its2.toArray n1 n2 none none sl1 sl2 hlen) ⟨o1, o2, ?_⟩
  have ea : its.toArray ++ its2.toArray = (its ++ its2).toArray := by simp
  rw [ea]
  exact ⟨.ref _, _, I.lnew (t' := sh.toks) (r.append r2) (by rw [List.length_append]; exact hz), rfl, q _ I.fresh⟩
theorem jo_addLst : JO X (binaryOp .Add) addLst := ⟨_, op_catL, fun x y d e α H s Q S R1 R2 h => by
  unfold addLst at h
  split at h
  · next m n =>
    split at h
    · next a b ea eb =>
      split at h
      · next hc =>
        obtain ⟨p, vs, rfl, hp, rp⟩ := S.seq ea R1
        obtain ⟨q, us, rfl, hq, rq⟩ := S.seq eb R2
        exact ⟨p, q, vs, us, rfl, rfl, hp, hq, by rw [rp.length, rq.length]; exact line_ok hc, fun z hz => new_lst S hz (rp.append rq) h⟩
      · exact h.elim
    · exact h.elim
  · exact h.elim⟩
def addD : Op2 := op2or (iOp0 fun i j => .int (i + j)) (op2or addStr (op2or addLst addTup))
theorem jo_add : JO X (binaryOp .Add) addD := (jo_i0 (gD := fun i j => .int (i + j)) op_add fun _ _ _ _ => rfl).or (jo_addStr.or (jo_addLst.or jo_addTup))
def subD : Op2 := iOp0 fun i j => .int (i - j)
theorem jo_sub : JO X (binaryOp .Sub) subD := jo_i0 op_sub fun _ _ _ _ => rfl
/-- a product: one of them below 2 ^ 64, or together some million bits at most -/
@[irreducible] def cMul (i j : Int) : Bool := (decide (-18446744073709551616 < j) && decide (j < 18446744073709551616)) || ((decide (-18446744073709551616 < i) && decide (i < 18446744073709551616)) || decide (i.natAbs.log2 + j.natAbs.log2 < 1000000))
def mulI : Op2 := iOp cMul fun i j => .int (i * j)
/-- a text some times -/
def mulS : Op2 := fun x y s => match x, y with
  | .str z, .int n => if decide (0 ≤ n) && (decide (n ≤ 1000) && decide (z.length ≤ 1000)) then .ok (.str (Txt.mul z n)) s else .bad
  | _, _ => .bad
/-- a list some times -/
def mulL : Op2 := fun x y s => match x, y with
  | .ref m, .int n => (match lst? s m with
    | some l => if decide (0 ≤ n) && (decide (n ≤ 100000) && decide (l.length * n.toNat ≤ line)) then newO (.lst (List.replicate n.toNat l).flatten) s else .bad
    | none => .bad)
  | _, _ => .bad
def mulD : Op2 := op2or mulI (op2or mulS mulL)
theorem op_mulS : OpR X (binaryOp .Mult) (fun x y H Q => ∃ i j, x = .str i ∧ y = .int j ∧ MulOk i j ∧ Q (.str (Txt.mul i j)) H) := by
  intro pins s σ H x y v u Q I rx ry h
  obtain ⟨i, j, rfl, rfl, hz, q⟩ := h
  obtain ⟨t, rfl⟩ := rx
  obtain ⟨t', rfl⟩ := ry
  exact SB.mul hz (fun t' tk => ⟨.str (Txt.mul i j), H, I.tok _, ⟨_, rfl⟩, q⟩)
theorem mulOk_of {z : Str} {n : Int} (h0 : 0 ≤ n) (h1 : n ≤ 1000) (h2 : z.length ≤ 1000) : MulOk z n := by
  refine ⟨by rw [decide_eq_false (by omega), decide_eq_false (by omega)]; rfl, fun h _ => ?_, fun h _ => ?_⟩
  · have h3 : (1000 : Int) ≤ (2 ^ 63 - 1) / n := by
      rw [Int.le_ediv_iff_mul_le (by omega)]
      omega
    omega
  · obtain ⟨m, rfl⟩ := Int.eq_ofNat_of_zero_le h0
    have h4 : z.length * m ≤ 1000 * 1000 := Nat.mul_le_mul h2 (by omega)
    unfold Builtin.Str.tooLong
    exact decide_eq_false (by rw [Int.toNat_natCast]; exact Nat.not_lt.mpr (Nat.le_trans h4 (by decide)))
theorem jo_mulS : JO X (binaryOp .Mult) mulS := ⟨_, op_mulS, fun x y d e α H s Q S R1 R2 h => by
  unfold mulS at h
  split at h
  · cases R1
    cases R2
    split at h
    · next c =>
      obtain ⟨c1, c2⟩ := Bool.and_eq_true_iff.mp c
      obtain ⟨c2, c3⟩ := Bool.and_eq_true_iff.mp c2
      exact ⟨_, _, rfl, rfl, mulOk_of (of_decide_eq_true c1) (of_decide_eq_true c2) (of_decide_eq_true c3), PV.here h S rfl⟩
    · exact h.elim
  · exact h.elim⟩
theorem rep_times {ds : List D} {vs : List V} (r : RepL K α H ds vs) : ∀ n : Nat, RepL K α H (List.replicate n ds).flatten (List.replicate n vs).flatten
  | 0 => rfl
  | n + 1 => by
    rw [List.replicate_succ, List.replicate_succ, List.flatten_cons, List.flatten_cons]
    exact r.append (rep_times r n)
theorem jo_mulL : JO X (binaryOp .Mult) mulL := ⟨_, op_rep, fun x y d e α H s Q S R1 R2 h => by
  unfold mulL at h
  split at h
  · next m n =>
    cases R2
    split at h
    · next l el =>
      split at h
      · next c =>
        obtain ⟨c1, c2⟩ := Bool.and_eq_true_iff.mp c
        obtain ⟨c2, c3⟩ := Bool.and_eq_true_iff.mp c2
        have c1' := of_decide_eq_true c1
        have c2' := of_decide_eq_true c2
        obtain ⟨p, vs, rfl, _, _, hp, rp⟩ := S.lst el R1
        exact ⟨p, n, vs, rfl, rfl, hp, by omega, by omega, by rw [rp.length]; exact line_ok c3, fun z hz => new_lst S hz (rep_times rp n.toNat) h⟩
      · exact h.elim
    · exact h.elim
  · exact h.elim⟩
theorem op_mulA : OpR X (binaryOp .Mult) (rI (fun i j => cMul i j = true) fun i j => .int (i * j)) := opI fun i j _ _ _ _ _ hc q => by
  have hc : cMul i j = true := hc
  unfold cMul at hc
  rcases (Bool.or_eq_true _ _).mp hc with h | h
  · obtain ⟨h1, h2⟩ := Bool.and_eq_true_iff.mp h
    exact PyProof.Rows.mul_int q (CMul.ok (.inr ⟨of_decide_eq_true h1, of_decide_eq_true h2⟩))
  · rcases (Bool.or_eq_true _ _).mp h with h | h
    · obtain ⟨h1, h2⟩ := Bool.and_eq_true_iff.mp h
      exact PyProof.Rows.mul_int q (CMul.ok (.inl ⟨of_decide_eq_true h1, of_decide_eq_true h2⟩))
    · exact PyProof.Rows.mul_int q (CMulW.ok (i := i) (j := j) (of_decide_eq_true h : i.natAbs.log2 + j.natAbs.log2 < 1000000))
theorem jo_mul : JO X (binaryOp .Mult) mulD := (jo_i (gD := fun i j => .int (i * j)) op_mulA (fun i j h => h) fun _ _ _ _ => rfl).or (jo_mulS.or jo_mulL)
def fdivD : Op2 := iOp (fun _ j => decide (0 < j) && decide (j.natAbs.log2 < 9000)) fun i j => .int (i / j)
theorem jo_fdiv : JO X (binaryOp .FloorDiv) fdivD := jo_i op_fdivW (fun i j h => by
  obtain ⟨h1, h2⟩ := Bool.and_eq_true_iff.mp h
  exact ⟨of_decide_eq_true h1, of_decide_eq_true h2⟩) fun _ _ _ _ => rfl
def modD : Op2 := iOp (fun _ j => decide (0 < j)) fun i j => .int (i % j)
theorem jo_mod : JO X (binaryOp .Mod) modD := jo_i op_mod (fun i j h => (of_decide_eq_true h : 0 < j)) fun _ _ _ _ => rfl
@[irreducible] def cPow (i j : Int) : Bool := decide (0 ≤ j) && (decide (j ≤ 1000000) && decide (i.natAbs < 2 ^ 64))
theorem cPow_ok {i j : Int} (h : cPow i j = true) : CPow i j := by
  unfold cPow at h
  obtain ⟨h1, h2⟩ := Bool.and_eq_true_iff.mp h
  obtain ⟨h2, h3⟩ := Bool.and_eq_true_iff.mp h2
  exact ⟨of_decide_eq_true h1, of_decide_eq_true h2, of_decide_eq_true h3⟩
def powD : Op2 := iOp cPow fun i j => .int (i ^ j.toNat)
theorem jo_pow : JO X (binaryOp .Pow) powD := jo_i op_pow (fun _ _ h => cPow_ok h) fun _ _ _ _ => rfl
def shlD : Op2 := iOp cPow fun i j => .int (i * 2 ^ j.toNat)
theorem jo_shl : JO X (binaryOp .LShift) shlD := jo_i op_shl (fun _ _ h => cPow_ok h) fun _ _ _ _ => rfl
def shrD : Op2 := iOp (fun _ j => decide (0 ≤ j)) fun i j => .int (i / 2 ^ j.toNat)
theorem jo_shr : JO X (binaryOp .RShift) shrD := jo_i op_shr (fun i j h => (of_decide_eq_true h : 0 ≤ j)) fun _ _ _ _ => rfl
def bandD : Op2 := iOp0 fun i j => .int (Builtin.bitAnd i j)
def borD : Op2 := iOp0 fun i j => .int (Builtin.bitOr i j)
theorem jo_bor : JO X (binaryOp .BitOr) borD := jo_i0 op_or fun _ _ _ _ => rfl
def bxorD : Op2 := iOp0 fun i j => .int (Builtin.bitXor i j)
theorem jo_bxor : JO X (binaryOp .BitXor) bxorD := jo_i0 op_xor fun _ _ _ _ => rfl
def ltD : Op2 := iOp0 fun i j => .bl (decide (i < j))
theorem jo_lt : JO X (compareOp .Lt) ltD := jo_i0 op_lt fun _ _ _ _ => rfl
def leD : Op2 := iOp0 fun i j => .bl (decide (i ≤ j))
theorem jo_le : JO X (compareOp .LtE) leD := jo_i0 op_le fun _ _ _ _ => rfl
def gtD : Op2 := iOp0 fun i j => .bl (decide (j < i))
theorem jo_gt : JO X (compareOp .Gt) gtD := jo_i0 op_gt fun _ _ _ _ => rfl
def geD : Op2 := iOp0 fun i j => .bl (decide (j ≤ i))
/-! is None -/
def isNon : D → Bool
  | .non => true
  | _ => false
def isND : Op2 := fun x y s => match y, x with
  | .non, x => .ok (.bl (isNon x)) s
  | .bl b, .bl a => .ok (.bl (decide (a = b))) s
  | _, _ => .bad
def notND : Op2 := fun x y s => match y, x with
  | .non, x => .ok (.bl (!isNon x)) s
  | .bl b, .bl a => .ok (.bl (!decide (a = b))) s
  | _, _ => .bad
theorem isNon_rep {d : D} {v : V} (r : Rep K α H d v) : decide (v = .non) = isNon d := by
  cases d with
  | non => cases r; rfl
  | bl b => cases r; rfl
  | int i => cases r; rfl
  | str x => cases r; rfl
  | ref n => obtain ⟨a, _, rfl⟩ := r; rfl
  | hot a dn => obtain ⟨rfl, _⟩ := r; rfl
  | tup ds => obtain ⟨a, _, rfl, _⟩ := r; rfl
theorem jo_isN : JO X (compareOp .Is) isND := ⟨_, op_isN.or op_is_bl, fun x y d e α H s Q S R1 R2 h => by
  cases e with
  | non =>
    have h' : PV X.K (Rep X.K) α H (.ok (.bl (isNon d)) s) Q := h
    exact .inl ⟨R2, by rw [isNon_rep R1]; exact h'.here S rfl⟩
  | bl b =>
    cases d with
    | bl a =>
      have h' : PV X.K (Rep X.K) α H (.ok (.bl (decide (a = b))) s) Q := h
      exact .inr ⟨a, b, R1, R2, h'.here S rfl⟩
    | _ => exact h.elim
  | _ => exact h.elim⟩
theorem jo_notN : JO X (compareOp .IsNot) notND := ⟨_, op_notN.or op_isnot_bl, fun x y d e α H s Q S R1 R2 h => by
  cases e with
  | non =>
    have h' : PV X.K (Rep X.K) α H (.ok (.bl (!isNon d)) s) Q := h
    exact .inl ⟨R2, by rw [isNon_rep R1]; exact h'.here S rfl⟩
  | bl b =>
    cases d with
    | bl a =>
      have h' : PV X.K (Rep X.K) α H (.ok (.bl (!decide (a = b))) s) Q := h
      exact .inr ⟨a, b, R1, R2, h'.here S rfl⟩
    | _ => exact h.elim
  | _ => exact h.elim⟩
end
end PD

/-! Pd2: equality, membership, tests, subscripts, slices, displays. -/
namespace PD
open PySem L2

/-! ### == -/
def optAll {β : Type} : List (Option β) → Option (List β)
  | [] => some []
  | some a :: r => (optAll r).map (a :: ·)
  | none :: _ => none
/-- what a thing is, as data (lists too), down to a depth -/
def pyOf (s : Sto) : Nat → D → Option PyData
  | _, .non => some .none
  | _, .bl b => some (.bool b)
  | _, .int i => some (.int i)
  | _, .str x => some (.str x)
  | _, .hot _ _ => none
  | 0, _ => none
  | n + 1, .tup l => (optAll (l.map (pyOf s n))).map .tuple
  | n + 1, .ref m => (match seq? s m with
    | some l => (optAll (l.map (pyOf s n))).map .list
    | none => none)
section
variable {X : Cx} {W : WX} {K : PySem.W.Frag} {α α' α1 α2 : List Addr} {H H' H1 H2 : Hp} {s s' s1 s2 : Sto} {ρ ρ' : En} {σ σ' : L2.St}
theorem dpAll_of {n : Nat} (ih : ∀ d p v, pyOf s n d = some p → Rep K α H d v → Dp K H v p) : ∀ {l : List D} {ps : List PyData} {vs : List V}, optAll (l.map (pyOf s n)) = some ps → RepL K α H l vs → DpAll K H vs ps
  | [], ps, vs, h, r => by
    cases h
    rw [show vs = [] from r]
    exact .nil
  | d :: l, ps, vs, h, r => by
    obtain ⟨v, r', e1, r1, r2⟩ := r
    rw [e1]
    have h' : optAll (pyOf s n d :: l.map (pyOf s n)) = some ps := h
    cases e : pyOf s n d with
    | none => rw [e] at h'; cases h'
    | some p =>
      rw [e] at h'
      have h2 : (optAll (l.map (pyOf s n))).map (p :: ·) = some ps := h'
      cases e2 : optAll (l.map (pyOf s n)) with
      | none => rw [e2] at h2; cases h2
      | some q =>
        rw [e2] at h2
        cases h2
        exact .cons (ih _ _ _ e r1) (dpAll_of ih e2 r2)
theorem dp_of (S : SOk K α H s) : ∀ (n : Nat) (d : D) (p : PyData) (v : V), pyOf s n d = some p → Rep K α H d v → Dp K H v p := by
  intro n
  induction n with
  | zero =>
    intro d p v h r
    cases d with
    | non => cases h; cases r; exact .non
    | bl b => cases h; cases r; exact .bl b
    | int i => cases h; cases r; exact .int i
    | str x => cases h; cases r; exact .str x
    | tup l => cases h
    | ref m => cases h
    | hot a dn => cases h
  | succ n ih =>
    intro d p v h r
    cases d with
    | non => cases h; cases r; exact .non
    | bl b => cases h; cases r; exact .bl b
    | int i => cases h; cases r; exact .int i
    | str x => cases h; cases r; exact .str x
    | tup l =>
      have h' : (optAll (l.map (pyOf s n))).map PyData.tuple = some p := h
      obtain ⟨ps, e1, e2⟩ := Option.map_eq_some_iff.mp h'
      obtain ⟨a, vs, rfl, hT, rl⟩ := r
      subst e2
      exact .tup hT (dpAll_of ih e1 rl)
    | hot a dn => cases h
    | ref m =>
      have h' : (match seq? s m with | some l => (optAll (l.map (pyOf s n))).map PyData.list | none => none) = some p := h
      cases e : seq? s m with
      | none => rw [e] at h'; cases h'
      | some l =>
        rw [e] at h'
        obtain ⟨ps, e1, e2⟩ := Option.map_eq_some_iff.mp (show (optAll (l.map (pyOf s n))).map PyData.list = some p from h')
        obtain ⟨a, vs, rfl, hL, rl⟩ := S.seq e r
        subst e2
        exact .lst hL (dpAll_of ih e1 rl)
/-- the scalars that == tells apart -/
def eqS? : D → D → Option Bool
  | .int i, .int j => some (decide (i = j))
  | .str x, .str y => some (decide (x = y))
  | .bl a, .bl b => some (decide (a = b))
  | .non, .non => some true
  | .non, .int _ => some false
  | .int _, .non => some false
  | .non, .bl _ => some false
  | .bl _, .non => some false
  | .non, .str _ => some false
  | .str _, .non => some false
  | .int _, .str _ => some false
  | .str _, .int _ => some false
  | .bl _, .str _ => some false
  | .str _, .bl _ => some false
  | _, _ => none
theorem eqS_rep {d e : D} {x y : V} {b : Bool} (h : eqS? d e = some b) (r1 : Rep K α H d x) (r2 : Rep K α H e y) : scal x y = true ∧ decide (x = y) = b := by
  cases d <;> cases e <;> first
    | (cases h; cases r1; cases r2; exact ⟨rfl, by simp⟩)
    | cases h
def eqS (neg : Bool) : Op2 := fun x y s => match eqS? x y with
  | some b => .ok (.bl (if neg then !b else b)) s
  | none => .bad
theorem jo_eqS : JO X (compareOp .Eq) (eqS false) := ⟨_, op_eq, fun x y d e α H s Q S R1 R2 h => by
  unfold eqS at h
  cases q : eqS? d e with
  | none => rw [q] at h; exact h.elim
  | some b =>
    rw [q] at h
    obtain ⟨h1, h2⟩ := eqS_rep q R1 R2
    refine ⟨h1, ?_⟩
    rw [h2]
    exact PV.here h S rfl⟩
theorem jo_neS : JO X (compareOp .NotEq) (eqS true) := ⟨_, op_ne, fun x y d e α H s Q S R1 R2 h => by
  unfold eqS at h
  cases q : eqS? d e with
  | none => rw [q] at h; exact h.elim
  | some b =>
    rw [q] at h
    obtain ⟨h1, h2⟩ := eqS_rep q R1 R2
    refine ⟨h1, ?_⟩
    rw [h2]
    exact PV.here h S rfl⟩
/-- data of any kind, sixty deep -/
def eqG? (s : Sto) (x y : D) : Option Bool := match pyOf s 60 x, pyOf s 60 y with
  | some p, some q => if SeqAt.shaped p && SeqAt.shaped q then some (PyData.eqv p q) else none
  | _, _ => none
theorem eqG_rep {d e : D} {x y : V} {b : Bool} (S : SOk K α H s) (h : eqG? s d e = some b) (r1 : Rep K α H d x) (r2 : Rep K α H e y) : ∃ p q, Dp K H x p ∧ Dp K H y q ∧ SeqAt.shaped p = true ∧ SeqAt.shaped q = true ∧ PyData.eqv p q = b := by
  unfold eqG? at h
  cases e1 : pyOf s 60 d with
  | none => rw [e1] at h; cases h
  | some p =>
    cases e2 : pyOf s 60 e with
    | none => rw [e1, e2] at h; cases h
    | some q =>
      rw [e1, e2] at h
      have h' : (if SeqAt.shaped p && SeqAt.shaped q then some (PyData.eqv p q) else none) = some b := h
      cases c : (SeqAt.shaped p && SeqAt.shaped q) with
      | false => rw [c] at h'; cases h'
      | true =>
        rw [c, if_pos rfl] at h'
        obtain ⟨c1, c2⟩ := Bool.and_eq_true_iff.mp c
        exact ⟨p, q, dp_of S _ _ _ _ e1 r1, dp_of S _ _ _ _ e2 r2, c1, c2, Option.some.inj h'⟩
def eqG (neg : Bool) : Op2 := fun x y s => match eqG? s x y with
  | some b => .ok (.bl (if neg then !b else b)) s
  | none => .bad
theorem jo_eqG (hu : X.A.units + 64 < cLine) : JO X (compareOp .Eq) (eqG false) := ⟨_, op_eqD hu, fun x y d e α H s Q S R1 R2 h => by
  unfold eqG at h
  cases q : eqG? s d e with
  | none => rw [q] at h; exact h.elim
  | some b =>
    rw [q] at h
    obtain ⟨p, p', h1, h2, h3, h4, h5⟩ := eqG_rep S q R1 R2
    refine ⟨p, p', h1, h2, h3, h4, ?_⟩
    rw [h5]
    exact PV.here h S rfl⟩
theorem jo_neG (hu : X.A.units + 64 < cLine) : JO X (compareOp .NotEq) (eqG true) := ⟨_, op_neD hu, fun x y d e α H s Q S R1 R2 h => by
  unfold eqG at h
  cases q : eqG? s d e with
  | none => rw [q] at h; exact h.elim
  | some b =>
    rw [q] at h
    obtain ⟨p, p', h1, h2, h3, h4, h5⟩ := eqG_rep S q R1 R2
    refine ⟨p, p', h1, h2, h3, h4, ?_⟩
    rw [h5]
    exact PV.here h S rfl⟩
def eqD : Op2 := op2or (eqS false) (eqG false)
def neD : Op2 := op2or (eqS true) (eqG true)
theorem jo_eq {k : Nat} (hr : Room k X.A) : JO X (compareOp .Eq) eqD := jo_eqS.or (jo_eqG hr.units)
theorem jo_ne {k : Nat} (hr : Room k X.A) : JO X (compareOp .NotEq) neD := jo_neS.or (jo_neG hr.units)

/-! ### in -/
def flatD : D → Bool
  | .tup _ => false
  | .ref _ => false
  | .hot _ _ => false
  | _ => true
def eqFlat : D → D → Bool
  | .non, .non => true
  | .bl a, .bl b => a == b
  | .bl a, .int b => (if a then 1 else 0) == b
  | .int a, .bl b => a == (if b then 1 else 0)
  | .int a, .int b => a == b
  | .str a, .str b => a == b
  | _, _ => false
theorem flat_rep {d : D} {v : V} (h : flatD d = true) (r : Rep K α H d v) : flatV v = true := by
  cases d with
  | tup l => cases h
  | ref n => cases h
  | hot a dn => cases h
  | _ => cases r; rfl
theorem eqFlat_rep {d e : D} {x y : V} (h1 : flatD d = true) (h2 : flatD e = true) (r1 : Rep K α H d x) (r2 : Rep K α H e y) : eqV x y = eqFlat d e := by
  cases d with
  | tup l => cases h1
  | ref n => cases h1
  | hot a dn => cases h1
  | _ =>
    cases e with
    | tup l => cases h2
    | ref n => cases h2
    | hot a dn => cases h2
    | _ => cases r1; cases r2; rfl
theorem inFlat_rep {d : D} {x : V} (h1 : flatD d = true) (r1 : Rep K α H d x) : ∀ {l : List D} {vs : List V}, l.all flatD = true → RepL K α H l vs → vs.all flatV = true ∧ inV x vs = l.any fun y => eqFlat y d
  | [], vs, _, r => by rw [show vs = [] from r]; exact ⟨rfl, rfl⟩
  | e :: l, vs, h, r => by
    obtain ⟨v, r', e1, q1, q2⟩ := r
    have h' : (flatD e && l.all flatD) = true := h
    obtain ⟨a1, a2⟩ := Bool.and_eq_true_iff.mp h'
    obtain ⟨b1, b2⟩ := inFlat_rep h1 r1 a2 q2
    rw [e1]
    refine ⟨Bool.and_eq_true_iff.mpr ⟨flat_rep a1 q1, b1⟩, ?_⟩
    show (eqV v x || inV x r') = (eqFlat e d || l.any fun y => eqFlat y d)
    rw [b2, eqFlat_rep a1 h1 q1 r1]
/-- the items of a list or a tuple -/
def items? (s : Sto) : D → Option (List D)
  | .ref m => seq? s m
  | .tup l => some l
  | _ => none
theorem items_rep {d : D} {l : List D} (S : SOk K α H s) (h : items? s d = some l) {v : V} (r : Rep K α H d v) : ∃ a vs, v = .ref a ∧ (SqL K H a vs ∨ SqT K H a vs) ∧ RepL K α H l vs := by
  cases d with
  | ref m =>
    obtain ⟨a, vs, e, h1, h2⟩ := S.seq h r
    exact ⟨a, vs, e, .inl h1, h2⟩
  | tup m =>
    cases h
    obtain ⟨a, vs, e, h1, h2⟩ := r
    exact ⟨a, vs, e, .inr h1, h2⟩
  | _ => cases h
def inSeq (neg : Bool) : Op2 := fun x y s => match items? s y with
  | some l => if flatD x && l.all flatD then .ok (.bl (if neg then !l.any fun z => eqFlat z x else l.any fun z => eqFlat z x)) s else .bad
  | none => .bad
theorem ref_inSeq {neg : Bool} : RefO K (rIn K neg) (inSeq neg) := fun x y d e α H s Q S R1 R2 h => by
  unfold inSeq at h
  cases q : items? s e with
  | none => rw [q] at h; exact h.elim
  | some l =>
    rw [q] at h
    have h' : PV K (Rep K) α H (if flatD d && l.all flatD then .ok (.bl (if neg then !l.any fun z => eqFlat z d else l.any fun z => eqFlat z d)) s else .bad) Q := h
    cases c : (flatD d && l.all flatD) with
    | false => rw [c] at h'; exact h'.elim
    | true =>
      rw [c, if_pos rfl] at h'
      obtain ⟨c1, c2⟩ := Bool.and_eq_true_iff.mp c
      obtain ⟨a, vs, ey, hs, rl⟩ := items_rep S q R2
      obtain ⟨f1, f2⟩ := inFlat_rep c1 R1 c2 rl
      refine ⟨a, vs, ey, hs, flat_rep c1 R1, f1, ?_⟩
      rw [f2]
      exact h'.here S rfl
theorem jo_inSeq : JO X (compareOp .In) (inSeq false) := ⟨_, op_in_seq, ref_inSeq⟩
theorem jo_ninSeq : JO X (compareOp .NotIn) (inSeq true) := ⟨_, op_notIn_seq, ref_inSeq⟩
/-- one sign in a text -/
def inTxt (neg : Bool) : Op2 := fun x y s => match x, y with
  | .str c, .str z => .ok (.bl (if neg then !(!(Builtin.Str.occurrences z c 0 z.length 1).isEmpty) else !(Builtin.Str.occurrences z c 0 z.length 1).isEmpty)) s
  | _, _ => .bad
theorem jo_inTxt : JO X (compareOp .In) (inTxt false) := ⟨_, op_in_str, fun x y d e α H s Q S R1 R2 h => by
  cases d with
  | str i =>
    cases e with
    | str j =>
      cases R1
      cases R2
      exact ⟨i, j, rfl, rfl, PV.here h S rfl⟩
    | _ => exact h.elim
  | _ => exact h.elim⟩
theorem jo_ninTxt : JO X (compareOp .NotIn) (inTxt true) := ⟨_, op_notIn_str, fun x y d e α H s Q S R1 R2 h => by
  cases d with
  | str i =>
    cases e with
    | str j =>
      cases R1
      cases R2
      exact ⟨i, j, rfl, rfl, PV.here h S rfl⟩
    | _ => exact h.elim
  | _ => exact h.elim⟩
/-! dicts: keys are ints and texts -/
def key? : D → Option Key
  | .int i => some (.inl i)
  | .str x => some (.inr x)
  | _ => none
theorem key_rep {d : D} {k : Key} {v : V} (h : key? d = some k) (r : Rep K α H d v) : v = kV k := by
  cases d with
  | int i => cases h; exact r
  | str x => cases h; exact r
  | _ => cases h
def valD {κ : Type} [DecidableEq κ] (kvs : List (κ × D)) (k : κ) : Option D := (kvs.find? fun kv => decide (kv.1 = k)).map (·.2)
def putD {κ : Type} [DecidableEq κ] (kvs : List (κ × D)) (k : κ) (v : D) : List (κ × D) :=
  if (kvs.any fun kv => decide (kv.1 = k)) = true then kvs.map (fun kv => if kv.1 = k then (kv.1, v) else kv) else kvs ++ [(k, v)]
def dropD {κ : Type} [DecidableEq κ] (kvs : List (κ × D)) (k : κ) : List (κ × D) := kvs.filter fun kv => decide (kv.1 ≠ k)
theorem RepF.cons {κ : Type} {k : κ} {d : D} {v : V} {l : List (κ × D)} {m : List (κ × V)} (r : Rep K α H d v) (h : RepF K α H l m) : RepF K α H ((k, d) :: l) ((k, v) :: m) := ⟨congrArg (k :: ·) h.1, .cons r h.2⟩
theorem RepF.cases_ {κ : Type} {k : κ} {d : D} {l : List (κ × D)} {m : List (κ × V)} (h : RepF K α H ((k, d) :: l) m) : ∃ v m', m = (k, v) :: m' ∧ Rep K α H d v ∧ RepF K α H l m' := by
  obtain ⟨h1, h2⟩ := h
  cases m with
  | nil => cases h1
  | cons q m =>
    obtain ⟨k', v⟩ := q
    have e : k' :: m.map (·.1) = k :: l.map (·.1) := h1
    injection e with e1 e2
    obtain ⟨v', r', e3, r1, r2⟩ := h2
    have e4 : v :: m.map (·.2) = v' :: r' := e3
    injection e4 with e5 e6
    subst e1 e5
    exact ⟨v, m, rfl, r1, e2, by rw [e6]; exact r2⟩
theorem RepF.nil_ {κ : Type} {m : List (κ × V)} (h : RepF K α H ([] : List (κ × D)) m) : m = [] := by
  have h1 : m.map (·.1) = [] := h.1
  exact List.map_eq_nil_iff.mp h1
section
variable {κ : Type} [DecidableEq κ]
theorem RepF.val : ∀ {l : List (κ × D)} {m : List (κ × V)} {k : κ}, RepF K α H l m → (∀ d, valD l k = some d → ∃ v, valV m k = some v ∧ Rep K α H d v) ∧ (valD l k = none → valV m k = none)
  | [], m, k, h => by
    rw [h.nil_]
    exact ⟨fun d e => (by cases e), fun _ => rfl⟩
  | (j, d) :: l, m, k, h => by
    obtain ⟨v, m', rfl, r, h'⟩ := h.cases_
    obtain ⟨a, b⟩ := RepF.val (k := k) h'
    by_cases e : j = k
    · have e1 : valD ((j, d) :: l) k = some d := by unfold valD; rw [List.find?_cons_of_pos (by simpa using e)]; rfl
      have e2 : valV ((j, v) :: m') k = some v := valV_pos e
      rw [e1, e2]
      exact ⟨fun d' q => (by cases q; exact ⟨v, rfl, r⟩), fun q => (by cases q)⟩
    · have e1 : valD ((j, d) :: l) k = valD l k := by unfold valD; rw [List.find?_cons_of_neg (by simpa using e)]
      have e2 : valV ((j, v) :: m') k = valV m' k := valV_neg e
      rw [e1, e2]
      exact ⟨a, b⟩
theorem RepF.any : ∀ {l : List (κ × D)} {m : List (κ × V)} {k : κ}, RepF K α H l m → (m.any fun kv => decide (kv.1 = k)) = (l.any fun kv => decide (kv.1 = k))
  | [], m, k, h => by rw [h.nil_]; rfl
  | (j, d) :: l, m, k, h => by
    obtain ⟨v, m', rfl, r, h'⟩ := h.cases_
    show (decide (j = k) || _) = (decide (j = k) || _)
    rw [RepF.any h']
theorem RepF.repl : ∀ {l : List (κ × D)} {m : List (κ × V)} {k : κ} {d : D} {v : V}, RepF K α H l m → Rep K α H d v → RepF K α H (l.map fun kv => if kv.1 = k then (kv.1, d) else kv) (m.map fun kv => if kv.1 = k then (kv.1, v) else kv)
  | [], m, k, d, v, h, r => by rw [h.nil_]; exact ⟨rfl, rfl⟩
  | (j, e) :: l, m, k, d, v, h, r => by
    obtain ⟨u, m', rfl, r', h'⟩ := h.cases_
    have ih := RepF.repl (k := k) h' r
    show RepF K α H ((if j = k then (j, d) else (j, e)) :: _) ((if j = k then (j, v) else (j, u)) :: _)
    by_cases q : j = k
    · rw [if_pos q, if_pos q]
      exact ih.cons r
    · rw [if_neg q, if_neg q]
      exact ih.cons r'
theorem RepF.snoc {l : List (κ × D)} {m : List (κ × V)} {k : κ} {d : D} {v : V} (h : RepF K α H l m) (r : Rep K α H d v) : RepF K α H (l ++ [(k, d)]) (m ++ [(k, v)]) := by
  refine ⟨by rw [List.map_append, List.map_append, h.1]; rfl, ?_⟩
  rw [List.map_append, List.map_append]
  exact h.2.append (.cons r rfl)
theorem RepF.put {l : List (κ × D)} {m : List (κ × V)} {k : κ} {d : D} {v : V} (h : RepF K α H l m) (r : Rep K α H d v) : RepF K α H (putD l k d) (putK m k v) := by
  unfold putD putK
  rw [h.any]
  split
  · exact h.repl r
  · exact h.snoc r
theorem RepF.drop_ : ∀ {l : List (κ × D)} {m : List (κ × V)} {k : κ}, RepF K α H l m → RepF K α H (dropD l k) (dropK m k)
  | [], m, k, h => by rw [h.nil_]; exact ⟨rfl, rfl⟩
  | (j, e) :: l, m, k, h => by
    obtain ⟨u, m', rfl, r', h'⟩ := h.cases_
    have ih := RepF.drop_ (k := k) h'
    unfold dropD dropK at *
    rw [List.filter_cons, List.filter_cons]
    by_cases q : j = k
    · rw [if_neg (by simpa using q), if_neg (by simpa using q)]
      exact ih
    · rw [if_pos (by simpa using q), if_pos (by simpa using q)]
      exact ih.cons r'
theorem RepF.len {l : List (κ × D)} {m : List (κ × V)} (h : RepF K α H l m) : m.length = l.length := by
  have := congrArg List.length h.1
  rw [List.length_map, List.length_map] at this
  exact this
end
/-- a dict that may be read -/
def dk? (s : Sto) (n : Nat) : Option (List (Key × D)) := match s[n]? with
  | some (.dk l) => some l
  | some (.lk l) => some l
  | _ => none
/-- a dict that may be changed -/
def dw? (s : Sto) (n : Nat) : Option (List (Key × D)) := match s[n]? with
  | some (.dk l) => some l
  | _ => none
theorem SOk.dk {n : Nat} {l : List (Key × D)} (S : SOk K α H s) (h : dk? s n = some l) {v : V} (r : Rep K α H (.ref n) v) : ∃ a kv, v = .ref a ∧ α[n]? = some a ∧ True ∧ Rd H a (.dK kv) ∧ RepF K α H l kv := by
  unfold dk? at h
  cases e : s[n]? with
  | none => rw [e] at h; cases h
  | some o =>
    rw [e] at h
    cases o with
    | dk l' =>
      cases h
      obtain ⟨a, h1, h2⟩ := S.at_ n _ e
      obtain ⟨b, g1, g2⟩ := r
      rw [h1] at g1
      cases g1
      obtain ⟨kv, q1, q2⟩ := h2
      exact ⟨_, kv, g2, h1, trivial, .inl q1, q2⟩
    | lk l' =>
      cases h
      obtain ⟨a, h1, h2⟩ := S.at_ n _ e
      obtain ⟨b, g1, g2⟩ := r
      rw [h1] at g1
      cases g1
      obtain ⟨kv, ob, q1, q2⟩ := h2
      exact ⟨_, kv, g2, h1, trivial, .inr ⟨ob, q1⟩, q2⟩
    | _ => cases h
theorem SOk.dw {n : Nat} {l : List (Key × D)} (S : SOk K α H s) (h : dw? s n = some l) {v : V} (r : Rep K α H (.ref n) v) : ∃ a kv, v = .ref a ∧ α[n]? = some a ∧ s[n]? = some (.dk l) ∧ H a = some (.dK kv) ∧ RepF K α H l kv := by
  unfold dw? at h
  cases e : s[n]? with
  | none => rw [e] at h; cases h
  | some o =>
    rw [e] at h
    cases o with
    | dk l' =>
      cases h
      obtain ⟨a, h1, h2⟩ := S.at_ n _ e
      obtain ⟨b, g1, g2⟩ := r
      rw [h1] at g1
      cases g1
      obtain ⟨kv, q1, q2⟩ := h2
      exact ⟨_, kv, g2, h1, rfl, q1, q2⟩
    | _ => cases h
def rInD (neg : Bool) : R2 := fun y x H Q => ∃ a o, x = .ref a ∧ DGet H a y o ∧ Q (.bl (if neg then !o.isSome else o.isSome)) H
theorem op_inDk (hu : X.A.units + 1 < cLine) : OpR X (compareOp .In) (rInD false) := fun pins s σ H x y v u Q I rx ry h => by
  obtain ⟨a, ov, ex, g, q2⟩ := h
  subst ex
  obtain rfl : u = Value.ref a := ry
  exact d_in hu I g rx fun s3 I3 => ⟨.bl ov.isSome, H, I3, rfl, q2⟩
theorem op_ninDk (hu : X.A.units + 1 < cLine) : OpR X (compareOp .NotIn) (rInD true) := fun pins s σ H x y v u Q I rx ry h => by
  obtain ⟨a, ov, ex, g, q2⟩ := h
  subst ex
  obtain rfl : u = Value.ref a := ry
  exact d_notIn hu I g rx fun s3 I3 => ⟨.bl (!ov.isSome), H, I3, rfl, q2⟩
def inDk (neg : Bool) : Op2 := fun x y s => match key? x, y with
  | some k, .ref n => (match dk? s n with
    | some l => .ok (.bl (if neg then !(valD l k).isSome else (valD l k).isSome)) s
    | none => .bad)
  | _, _ => .bad
theorem ref_inDk {neg : Bool} : RefO K (rInD neg) (inDk neg) := fun x y d e α H s Q S R1 R2 h => by
  unfold inDk at h
  cases q : key? d with
  | none => rw [q] at h; exact h.elim
  | some k =>
    rw [q] at h
    cases e with
    | ref n =>
      have h1 : PV K (Rep K) α H (match dk? s n with
        | some l => .ok (.bl (if neg then !(valD l k).isSome else (valD l k).isSome)) s
        | none => .bad) Q := h
      cases q2 : dk? s n with
      | none => rw [q2] at h1; exact h1.elim
      | some l =>
        rw [q2] at h1
        obtain ⟨a, kv, rfl, _, _, ha, rf⟩ := S.dk q2 R2
        refine ⟨a, valV kv k, rfl, .inl ⟨kv, k, ha, key_rep q R1, rfl⟩, ?_⟩
        have e1 : (valV kv k).isSome = (valD l k).isSome := by
          obtain ⟨f1, f2⟩ := rf.val (k := k)
          cases z : valD l k with
          | none => rw [f2 z]; rfl
          | some d' =>
            obtain ⟨v, g, _⟩ := f1 d' z
            rw [g]
            rfl
        rw [e1]
        exact PV.here h1 S rfl
    | _ => exact h.elim
def inD : Op2 := op2or (inSeq false) (op2or (inTxt false) (inDk false))
def ninD : Op2 := op2or (inSeq true) (op2or (inTxt true) (inDk true))
theorem jo_in {k : Nat} (hr : Room k X.A) : JO X (compareOp .In) inD := jo_inSeq.or (jo_inTxt.or ⟨_, op_inDk (hu_of hr), ref_inDk⟩)
theorem jo_nin {k : Nat} (hr : Room k X.A) : JO X (compareOp .NotIn) ninD := jo_ninSeq.or (jo_ninTxt.or ⟨_, op_ninDk (hu_of hr), ref_inDk⟩)

/-! ### tests -/
def tru? (s : Sto) : D → Option Bool
  | .non => some false
  | .bl b => some b
  | .int i => some (i != 0)
  | .str x => if decide (x.length ≤ line) then some ((x.length : Int) != 0) else none
  | .tup l => some (!l.isEmpty)
  | .hot _ _ => none
  | .ref n => (match seq? s n with
    | some l => some (!l.isEmpty)
    | none => (match dw? s n with
      | some l => some (!l.isEmpty)
      | none => none))
theorem tru_rep {d : D} {b : Bool} {v : V} (S : SOk K α H s) (h : tru? s d = some b) (r : Rep K α H d v) : TruV K v H b := by
  cases d with
  | non => cases h; cases r; exact rfl
  | bl c => cases h; cases r; exact rfl
  | int i => cases h; cases r; exact rfl
  | str x =>
    have h' : (if decide (x.length ≤ line) then some ((x.length : Int) != 0) else none) = some b := h
    cases r
    cases c : decide (x.length ≤ line) with
    | false => rw [c] at h'; cases h'
    | true =>
      rw [c, if_pos rfl] at h'
      exact ⟨line_ok c, (Option.some.inj h').symm⟩
  | tup l =>
    cases h
    obtain ⟨a, vs, rfl, hT, rl⟩ := r
    refine .inr (.inl ⟨vs, hT, ?_⟩)
    have := rl.length
    cases l <;> cases vs <;> first | rfl | cases this
  | hot a dn => cases h
  | ref n =>
    have h' : (match seq? s n with
      | some l => some (!l.isEmpty)
      | none => (match dw? s n with
        | some l => some (!l.isEmpty)
        | none => none)) = some b := h
    cases q : seq? s n with
    | some l =>
      rw [q] at h'
      cases h'
      obtain ⟨a, vs, rfl, hL, rl⟩ := S.seq q r
      refine .inl ⟨vs, hL, ?_⟩
      have := rl.length
      cases l <;> cases vs <;> first | rfl | cases this
    | none =>
      rw [q] at h'
      have h2 : (match dw? s n with
        | some l => some (!l.isEmpty)
        | none => none) = some b := h'
      cases q2 : dw? s n with
      | none => rw [q2] at h2; cases h2
      | some l =>
        rw [q2] at h2
        cases h2
        obtain ⟨a, kv, rfl, _, _, ha, rf⟩ := S.dw q2 r
        refine .inr (.inr ⟨kv, ha, ?_⟩)
        have := rf.len
        cases l <;> cases kv <;> first | rfl | cases this
def gT (a : GE) : GT := fun ρ s => (a ρ s).bind fun x s1 => match tru? s1 x with
  | some b => .ok b s1
  | none => .bad
variable {e a b c : Expr} {es rest : List Expr} {ga gb gc : GE} {ta tb : GT} {pos : Pos}
theorem jt_truth (ha : JE X W a ga) (he : ∀ whole, isTrue a X.env whole = (do let v ← whole; standAt a.pos; holding [v] (truthy v)) := by intro _; rfl) : JT X W a (gT ga) := by
  obtain ⟨t, p, q⟩ := ha
  refine ⟨_, pt_truth p he, fun ρ s σ α H Q E S h => q ρ s σ α H _ E S (Post.bind h fun d s1 v α1 H1 l1 S1 R1 h1 => ?_)⟩
  cases z : tru? s1 d with
  | none => rw [z] at h1; exact h1.elim
  | some k =>
    rw [z] at h1
    exact ⟨k, tru_rep S1 z R1, Post.here h1 S1 rfl⟩
def gNot (t : GT) : GT := fun ρ s => (t ρ s).bind fun x s1 => .ok (!x) s1
def gAnd (t u : GT) : GT := fun ρ s => (t ρ s).bind fun x s1 => match x with
  | true => u ρ s1
  | false => .ok false s1
def gOr (t u : GT) : GT := fun ρ s => (t ρ s).bind fun x s1 => match x with
  | true => .ok true s1
  | false => u ρ s1
theorem jt_not (ha : JT X W a ta) : JT X W (.UnaryOp .Not a pos) (gNot ta) := by
  obtain ⟨t, p, q⟩ := ha
  refine ⟨_, pt_not p, fun ρ s σ α H Q E S h => q ρ s σ α H _ E S (Post.bind h fun d s1 v α1 H1 l1 S1 R1 h1 => ?_)⟩
  cases R1
  exact Post.here h1 S1 rfl
theorem jw_and1 (ha : JT X W a ta) : JW X W (.BoolOp .And [a] pos) ta := by
  obtain ⟨t, p, q⟩ := ha
  exact ⟨t, pw_and1 p, q⟩
theorem jw_or1 (ha : JT X W a ta) : JW X W (.BoolOp .Or [a] pos) ta := by
  obtain ⟨t, p, q⟩ := ha
  exact ⟨t, pw_or1 p, q⟩
theorem ref_and {t u : TT} (qa : RefT K W t ta) (qb : RefT K W u tb) : RefT K W (tAnd t u) (gAnd ta tb) := fun ρ s σ α H Q E S h => qa ρ s σ α H _ E S (Post.bind h fun d s1 v α1 H1 l1 S1 R1 h1 => by
  cases R1
  cases d with
  | true => exact qb ρ s1 σ α1 H1 Q (E.mono l1) S1 h1
  | false => exact Post.here h1 S1 rfl)
theorem ref_or {t u : TT} (qa : RefT K W t ta) (qb : RefT K W u tb) : RefT K W (tOr t u) (gOr ta tb) := fun ρ s σ α H Q E S h => qa ρ s σ α H _ E S (Post.bind h fun d s1 v α1 H1 l1 S1 R1 h1 => by
  cases R1
  cases d with
  | true => exact Post.here h1 S1 rfl
  | false => exact qb ρ s1 σ α1 H1 Q (E.mono l1) S1 h1)
theorem jw_and (ha : JT X W a ta) (hb : JW X W (.BoolOp .And (b :: rest) pos) tb) : JW X W (.BoolOp .And (a :: b :: rest) pos) (gAnd ta tb) := by
  obtain ⟨t, p, q⟩ := ha
  obtain ⟨u, p', q'⟩ := hb
  exact ⟨_, pw_and p p', ref_and q q'⟩
theorem jw_or (ha : JT X W a ta) (hb : JW X W (.BoolOp .Or (b :: rest) pos) tb) : JW X W (.BoolOp .Or (a :: b :: rest) pos) (gOr ta tb) := by
  obtain ⟨t, p, q⟩ := ha
  obtain ⟨u, p', q'⟩ := hb
  exact ⟨_, pw_or p p', ref_or q q'⟩
theorem JW.jt (h : JW X W a ta) : JT X W a ta := by
  obtain ⟨t, p, q⟩ := h
  exact ⟨t, p.pt, q⟩
/-! and, or, not as values: all but the last are truths -/
def gAndV (a b : GE) : GE := fun ρ s => (a ρ s).bind fun x s1 => match x with
  | .bl true => b ρ s1
  | .bl false => .ok (.bl false) s1
  | _ => .bad
def gOrV (a b : GE) : GE := fun ρ s => (a ρ s).bind fun x s1 => match x with
  | .bl true => .ok (.bl true) s1
  | .bl false => b ρ s1
  | _ => .bad
def gNotV (a : GE) : GE := fun ρ s => (a ρ s).bind fun x s1 => match x with
  | .bl b => .ok (.bl (!b)) s1
  | _ => .bad
theorem je_one {op} (h : JE X W a ga) : JE X W (.BoolOp op [a] pos) ga := by
  obtain ⟨t, p, q⟩ := h
  exact ⟨t, pe_one p, q⟩
theorem je_and (ha : JE X W a ga) (hb : JE X W (.BoolOp .And (b :: rest) pos) gb) : JE X W (.BoolOp .And (a :: b :: rest) pos) (gAndV ga gb) := by
  obtain ⟨t, p, q⟩ := ha
  obtain ⟨u, p', q'⟩ := hb
  refine ⟨_, pe_and p p', fun ρ s σ α H Q E S h => q ρ s σ α H _ E S (Post.bind h fun d s1 v α1 H1 l1 S1 R1 h1 => ?_)⟩
  cases d with
  | bl k =>
    cases R1
    refine ⟨k, rfl, ?_⟩
    cases k with
    | true => exact q' ρ s1 σ α1 H1 Q (E.mono l1) S1 h1
    | false => exact Post.here h1 S1 rfl
  | _ => exact h1.elim
def gIfE (t : GT) (a b : GE) : GE := fun ρ s => (t ρ s).bind fun x s1 => match x with
  | true => a ρ s1
  | false => b ρ s1
/-! a < b < c -/
def gChain (op op' : Op2) (a b c : GE) : GE := fun ρ s => (a ρ s).bind fun x s1 => (b ρ s1).bind fun y s2 => (quiet op x y s2).bind fun z s3 => match z with
  | .bl true => (c ρ s3).bind fun w s4 => quiet op' y w s4
  | .bl false => .ok (.bl false) s3
  | _ => .bad
theorem ref_chain {r r' : R2} {t1 t2 t3 : TE} {o o' : Op2} (q1 : RefO K r o) (q2 : RefO K r' o') (q3 : RefE K W t1 ga) (q4 : RefE K W t2 gb) (q5 : RefE K W t3 gc) : RefE K W (tChain r r' t1 t2 t3) (gChain o o' ga gb gc) := fun ρ s σ α H Q E S h => q3 ρ s σ α H _ E S (Post.bind h fun d s1 v α1 H1 l1 S1 R1 h1 => by
  refine q4 ρ s1 σ α1 H1 _ (E.mono l1) S1 (Post.bind h1 fun d2 s2 v2 α2 H2 l2 S2 R2 h2 => ?_)
  refine q1 v v2 d d2 α2 H2 s2 _ S2 (R1.mono l2) R2 (Post.still (W := W) (σ := σ) (Post.bind h2 fun d3 s3 v3 α3 H3 l3 S3 R3 h3 => ?_))
  cases d3 with
  | bl k =>
    cases R3
    refine ⟨k, rfl, ?_⟩
    cases k with
    | false => exact Post.here h3 S3 rfl
    | true =>
      refine q5 ρ s3 σ α3 H3 _ ((E.mono l1).mono (l2.trans l3)) S3 (Post.bind h3 fun d4 s4 v4 α4 H4 l4 S4 R4 h4 => ?_)
      exact q2 v2 v4 d2 d4 α4 H4 s4 _ S4 (R2.mono (l3.trans l4)) R4 (Post.still h4)
  | _ => exact h3.elim)
theorem je_chain {op op' : CmpOp} {o o' : Op2} (ho : JO X (compareOp op) o) (ho' : JO X (compareOp op') o') (ha : JE X W a ga) (hb : JE X W b gb) (hc : JE X W c gc) (hm : lastMarks [op, op'] [b, c] = false := by with_unfolding_all rfl) :
    JE X W (.Compare a [op, op'] [b, c] pos) (gChain o o' ga gb gc) := by
  obtain ⟨r, p1, q1⟩ := ho
  obtain ⟨r', p2, q2⟩ := ho'
  obtain ⟨t1, p3, q3⟩ := ha
  obtain ⟨t2, p4, q4⟩ := hb
  obtain ⟨t3, p5, q5⟩ := hc
  exact ⟨_, pe_chain p1 p2 p3 p4 p5 hm, ref_chain q1 q2 q3 q4 q5⟩
end
end PD

/-! Pd3: subscripts, slices, displays, arguments, calls of built-ins and of defs, methods. -/
namespace PD
open PySem L2
section
variable {X : Cx} {W : WX} {K : PySem.W.Frag} {α α' α1 α2 : List Addr} {H H' H1 H2 : Hp} {s s' s1 s2 : Sto} {ρ ρ' : En} {σ σ' : L2.St}
variable {e a b c : Expr} {es rest : List Expr} {ga gb gc : GE} {gl : GA} {pos : Pos}

/-! ### an item -/
theorem RepL.at_ {ds : List D} {vs : List V} {i : Int} {d : D} (r : RepL K α H ds vs) (h : atI ds i = some d) : ∃ v, atI vs i = some v ∧ Rep K α H d v := by
  unfold atI at *
  rw [r.length]
  cases e : ixN ds.length i with
  | none => rw [e] at h; cases h
  | some j =>
    rw [e] at h
    exact r.get (show ds[j]? = some d from h)
def ixSeq : Op2 := fun x y s => match y with
  | .int i => (match items? s x with
    | some l => (match atI l i with
      | some d => .ok d s
      | none => .bad)
    | none => .bad)
  | _ => .bad
def ixTxt : Op2 := fun x y s => match x, y with
  | .str z, .int i => if decide (z.length ≤ line) then (match atI z.cps.toList i with
    | some c => .ok (.str ⟨#[c]⟩) s
    | none => .bad) else .bad
  | _, _ => .bad
def ixDk : Op2 := fun x y s => match x, key? y with
  | .ref n, some k => (match dk? s n with
    | some l => (match valD l k with
      | some d => .ok d s
      | none => .bad)
    | none => .bad)
  | _, _ => .bad
def rDGet : R2 := fun x y H Q => ∃ a v, x = .ref a ∧ DGet H a y (some v) ∧ Q v H
theorem ref_ixDk : RefO K rDGet ixDk := fun x y d e α H s Q S R1 R2 h => by
  unfold ixDk at h
  cases d with
  | ref n =>
    cases q : key? e with
    | none => rw [q] at h; exact h.elim
    | some k =>
      rw [q] at h
      have h1 : PV K (Rep K) α H (match dk? s n with
        | some l => (match valD l k with
          | some d => .ok d s
          | none => .bad)
        | none => .bad) Q := h
      cases q2 : dk? s n with
      | none => rw [q2] at h1; exact h1.elim
      | some l =>
        rw [q2] at h1
        have h2 : PV K (Rep K) α H (match valD l k with
          | some d => .ok d s
          | none => .bad) Q := h1
        cases q3 : valD l k with
        | none => rw [q3] at h2; exact h2.elim
        | some d' =>
          rw [q3] at h2
          obtain ⟨a, kv, rfl, _, _, ha, rf⟩ := S.dk q2 R1
          obtain ⟨v, g1, g2⟩ := rf.val.1 d' q3
          exact ⟨a, v, rfl, .inl ⟨kv, k, ha, key_rep q R2, g1.symm⟩, PV.here h2 S g2⟩
  | _ => exact h.elim
theorem ref_ixS : RefO K (rIx K) (op2or ixSeq ixTxt) := fun x y d e α H s Q S R1 R2 h => by
  rcases PV.or h with h | h
  · unfold ixSeq at h
    cases e with
    | int i =>
      have h1 : PV K (Rep K) α H (match items? s d with
        | some l => (match atI l i with
          | some d => .ok d s
          | none => .bad)
        | none => .bad) Q := h
      cases q : items? s d with
      | none => rw [q] at h1; exact h1.elim
      | some l =>
        rw [q] at h1
        have h2 : PV K (Rep K) α H (match atI l i with
          | some d => .ok d s
          | none => .bad) Q := h1
        cases q2 : atI l i with
        | none => rw [q2] at h2; exact h2.elim
        | some z =>
          rw [q2] at h2
          obtain ⟨a, vs, ey, hs, rl⟩ := items_rep S q R1
          obtain ⟨v, g1, g2⟩ := rl.at_ q2
          cases R2
          rcases hs with hs | hs
          · exact .inl ⟨a, vs, i, v, ey, rfl, hs, g1, PV.here h2 S g2⟩
          · exact .inr (.inl ⟨a, vs, i, v, ey, rfl, hs, g1, PV.here h2 S g2⟩)
    | _ => exact h.elim
  · unfold ixTxt at h
    cases d with
    | str z =>
      cases e with
      | int i =>
        have h1 : PV K (Rep K) α H (if decide (z.length ≤ line) then (match atI z.cps.toList i with
          | some c => .ok (.str ⟨#[c]⟩) s
          | none => .bad) else .bad) Q := h
        cases c : decide (z.length ≤ line) with
        | false => rw [c] at h1; exact h1.elim
        | true =>
          rw [c, if_pos rfl] at h1
          cases q2 : atI z.cps.toList i with
          | none => rw [q2] at h1; exact h1.elim
          | some k =>
            rw [q2] at h1
            cases R1
            cases R2
            exact .inr (.inr ⟨z, i, k, rfl, rfl, line_ok c, q2, PV.here h1 S rfl⟩)
      | _ => exact h.elim
    | _ => exact h.elim
def ixD : Op2 := op2or (op2or ixSeq ixTxt) ixDk
/-- two readings of one expression -/
theorem PE.or {t t' : TE} (h : PE X e t) (h' : PE X e t') : PE X e (fun σ H Q => t σ H Q ∨ t' σ H Q) := ⟨fun pins s σ H Q I q => q.elim (h.run pins s σ H Q I) (h'.run pins s σ H Q I)⟩
theorem ref_or2 {ta tb : TE} {r r' : R2} {f g : Op2} (qa : RefE K W ta ga) (qb : RefE K W tb gb) (h1 : RefO K r f) (h2 : RefO K r' g) : RefE K W (fun σ H Q => tOp r ta tb σ H Q ∨ tOp r' ta tb σ H Q) (gOp (quiet (op2or f g)) ga gb) := fun ρ s σ α H Q E S h => by
  have use : ∀ (r : R2) (f : Op2), RefO K r f → Post K (Rep K) W α H σ (gOp (quiet f) ga gb ρ s) Q → tOp r ta tb σ H Q := fun r f hr q => ref_op qa qb (fun x y d e α H s σ Q S R1 R2 h => hr x y d e α H s Q S R1 R2 (Post.still h)) ρ s σ α H Q E S q
  have pick : Post K (Rep K) W α H σ (gOp (quiet f) ga gb ρ s) Q ∨ Post K (Rep K) W α H σ (gOp (quiet g) ga gb ρ s) Q := by
    unfold gOp at h ⊢
    cases ea : ga ρ s with
    | bad => rw [ea] at h; exact h.elim
    | err e s1 => rw [ea] at h; exact .inl h
    | ok d s1 =>
      rw [ea] at h
      have h1 : Post K (Rep K) W α H σ ((gb ρ s1).bind fun y s2 => quiet (op2or f g) d y s2) Q := h
      show Post K (Rep K) W α H σ ((gb ρ s1).bind fun y s2 => quiet f d y s2) Q ∨ Post K (Rep K) W α H σ ((gb ρ s1).bind fun y s2 => quiet g d y s2) Q
      cases eb : gb ρ s1 with
      | bad => rw [eb] at h1; exact h1.elim
      | err e s2 => rw [eb] at h1; exact .inl h1
      | ok d2 s2 =>
        rw [eb] at h1
        have h2 : Post K (Rep K) W α H σ (quiet (op2or f g) d d2 s2) Q := h1
        show Post K (Rep K) W α H σ (quiet f d d2 s2) Q ∨ Post K (Rep K) W α H σ (quiet g d d2 s2) Q
        unfold quiet op2or at *
        cases ef : f d d2 s2 with
        | ok x s3 => rw [ef] at h2; exact .inl h2
        | err x s3 => rw [ef] at h2; exact h2.elim
        | bad => rw [ef] at h2; exact .inr h2
  rcases pick with q | q
  · exact .inl (use r f h1 q)
  · exact .inr (use r' g h2 q)
theorem je_ix {k : Nat} (hr : Room k X.A) (ha : JE X W a ga) (hb : JE X W b gb) (hs : PlainIx b) : JE X W (.Subscript a b pos) (gOp (quiet ixD) ga gb) := by
  obtain ⟨t, p, q⟩ := ha
  obtain ⟨u, p', q'⟩ := hb
  exact ⟨_, PE.or (pe_ix ix_seq p p' hs) (pe_dget (hu_of hr) p p' hs), ref_or2 q q' ref_ixS ref_ixDk⟩

/-! ### slices -/
def cutL {β : Type} (xs : List β) (lo hi : Option Int) : List β := (xs.drop (HT.sIx xs.length 0 lo)).take (HT.sIx xs.length xs.length hi - HT.sIx xs.length 0 lo)
theorem RepL.cut {ds : List D} {vs : List V} (r : RepL K α H ds vs) (lo hi : Option Int) : RepL K α H (cutL ds lo hi) (cutV vs lo hi) := by
  unfold cutL cutV
  rw [r.length]
  exact (r.drop _).take _
def slD (x : D) (lo hi : Option Int) (s : Sto) : Res D := match x with
  | .tup l => .ok (.tup (cutL l lo hi)) s
  | .str z => if decide (z.length ≤ line) then .ok (.str (cutS z lo hi)) s else .bad
  | .ref n => (match seq? s n with
    | some l => newO (.lst (cutL l lo hi)) s
    | none => .bad)
  | _ => .bad
/-- a part of a slice -/
abbrev FO := En → Sto → Res (Option Int)
def gNoPart : FO := fun _ s => .ok none s
def gPart (g : GE) : FO := fun ρ s => (g ρ s).bind fun x s1 => match x with
  | .int i => .ok (some i) s1
  | _ => .bad
def rI (_ : List Addr) (_ : Hp) (a b : Option Int) : Prop := b = a
def JP (X : Cx) (W : WX) (e : Option Expr) (g : FO) : Prop := ∃ t, PO X e t ∧ ∀ ρ s σ α H Q, ERel X.K α H ρ σ → SOk X.K α H s → Post X.K rI W α H σ (g ρ s) Q → t σ H Q
theorem jp_none : JP X W none gNoPart := ⟨_, po_none, fun ρ s σ α H Q E S h => Post.here h S rfl⟩
theorem jp_some (ha : JE X W a ga) : JP X W (some a) (gPart ga) := by
  obtain ⟨t, p, q⟩ := ha
  refine ⟨_, po_some p, fun ρ s σ α H Q E S h => q ρ s σ α H _ E S (Post.bind h fun d s1 v α1 H1 l1 S1 R1 h1 => ?_)⟩
  cases d with
  | int i =>
    cases R1
    exact ⟨i, rfl, Post.here h1 S1 rfl⟩
  | _ => exact h1.elim
def gSl (a : GE) (lo hi : FO) : GE := fun ρ s => (a ρ s).bind fun x s1 => (lo ρ s1).bind fun l s2 => (hi ρ s2).bind fun h s3 => slD x l h s3
theorem je_slice {lo hi : Option Expr} {gl gh : FO} {p2 : Pos} (ha : JE X W a ga) (hl : JP X W lo gl) (hh : JP X W hi gh) : JE X W (.Subscript a (.Slice lo hi none p2) pos) (gSl ga gl gh) := by
  obtain ⟨t, p, q⟩ := ha
  obtain ⟨t1, p1, q1⟩ := hl
  obtain ⟨t2, p2, q2⟩ := hh
  refine ⟨_, pe_slice (sl_tupA.or (sl_list.or sl_str)) p p1 p2, fun ρ s σ α H Q E S h => q ρ s σ α H _ E S (Post.bind h fun d s1 v α1 H1 l1 S1 R1 h1 => ?_)⟩
  refine q1 ρ s1 σ α1 H1 _ (E.mono l1) S1 (Post.bind h1 fun lo s2 v2 α2 H2 l2 S2 R2 h2 => ?_)
  refine q2 ρ s2 σ α2 H2 _ (E.mono (l1.trans l2)) S2 (Post.bind h2 fun hi s3 v3 α3 H3 l3 S3 R3 h3 => ?_)
  cases R2
  cases R3
  have R := R1.mono (l2.trans l3)
  cases d with
  | tup l =>
    obtain ⟨p, vs, rfl, hT, rl⟩ := R
    have h4 : Post X.K (Rep X.K) W α3 H3 σ (.ok (.tup (cutL l lo hi)) s3) Q := h3
    refine .inl ⟨p, vs, rfl, hT, fun hw => ?_, fun hw z hz => ?_⟩
    · refine Post.here h4 S3 ⟨p, vs, rfl, hT, ?_⟩
      have := rl.cut lo hi
      have e : cutV vs lo hi = vs := by
        unfold cutV
        rw [hw.1, hw.2, List.drop_zero, Nat.sub_zero, List.take_length]
      rw [e] at this
      exact this
    · exact h4 _ _ _ (Le.new hz) (S3.new hz) ⟨z, _, rfl, SqT.of upd_same, (rl.cut lo hi).mono (Le.new hz)⟩
  | ref n =>
    have h4 : Post X.K (Rep X.K) W α3 H3 σ (match seq? s3 n with
      | some l => newO (.lst (cutL l lo hi)) s3
      | none => .bad) Q := h3
    cases e : seq? s3 n with
    | none => rw [e] at h4; exact h4.elim
    | some l =>
      rw [e] at h4
      obtain ⟨p, vs, rfl, hL, rl⟩ := S3.seq e R
      refine .inr (.inl ⟨p, vs, rfl, hL, fun z hz => ?_⟩)
      exact new_lst S3 hz (rl.cut lo hi) h4
  | str z =>
    have h4 : Post X.K (Rep X.K) W α3 H3 σ (if decide (z.length ≤ line) then .ok (.str (cutS z lo hi)) s3 else .bad) Q := h3
    cases R
    cases e : decide (z.length ≤ line) with
    | false => rw [e] at h4; exact h4.elim
    | true =>
      rw [e, if_pos rfl] at h4
      exact .inr (.inr ⟨z, rfl, line_ok e, Post.here h4 S3 rfl⟩)
  | _ => exact h3.elim

/-! ### arguments, displays -/
def gNil : GA := fun _ s => .ok [] s
def gCons (a : GE) (r : GA) : GA := fun ρ s => (a ρ s).bind fun x s1 => (r ρ s1).bind fun xs s2 => .ok (x :: xs) s2
theorem ja_nil : JA X W [] gNil := ⟨_, pa_nil, fun ρ s σ α H Q E S h => Post.here h S rfl⟩
theorem ja_cons (ha : JE X W e ga) (hr : JA X W es gl) (hs : starEach (e :: es) X.env = (false, eval e X.env) :: starEach es X.env := by rfl) : JA X W (e :: es) (gCons ga gl) := by
  obtain ⟨t, p, q⟩ := ha
  obtain ⟨u, p', q'⟩ := hr
  refine ⟨_, pa_cons p p' hs, fun ρ s σ α H Q E S h => q ρ s σ α H _ E S (Post.bind h fun d s1 v α1 H1 l1 S1 R1 h1 => ?_)⟩
  refine q' ρ s1 σ α1 H1 _ (E.mono l1) S1 (Post.bind h1 fun ds s2 vs α2 H2 l2 S2 R2 h2 => ?_)
  exact Post.here h2 S2 (.cons (R1.mono l2) R2)
def gTup (g : GA) : GE := fun ρ s => (g ρ s).bind fun l s1 => if decide (l.length ≤ line) then .ok (.tup l) s1 else .bad
def gLst (g : GA) : GE := fun ρ s => (g ρ s).bind fun l s1 => if decide (l.length ≤ line) then newO (.lst l) s1 else .bad
theorem je_tup {x1} (h : JA X W es gl) : JE X W (.Tuple es x1 pos) (gTup gl) := by
  obtain ⟨t, p, q⟩ := h
  refine ⟨_, pe_tup p, fun ρ s σ α H Q E S h => q ρ s σ α H _ E S (Post.bind h fun l s1 vs α1 H1 l1 S1 R1 h1 => ?_)⟩
  cases c : decide (l.length ≤ line) with
  | false => rw [c] at h1; exact h1.elim
  | true =>
    rw [c, if_pos rfl] at h1
    exact ⟨by rw [R1.length]; exact line_ok c, fun z hz => h1 _ _ _ (Le.new hz) (S1.new hz) ⟨z, vs, rfl, SqT.of upd_same, R1.mono (Le.new hz)⟩⟩
theorem je_lst (h : JA X W es gl) : JE X W (.List es pos) (gLst gl) := by
  obtain ⟨t, p, q⟩ := h
  refine ⟨_, pe_lst p, fun ρ s σ α H Q E S h => q ρ s σ α H _ E S (Post.bind h fun l s1 vs α1 H1 l1 S1 R1 h1 => ?_)⟩
  cases c : decide (l.length ≤ line) with
  | false => rw [c] at h1; exact h1.elim
  | true =>
    rw [c, if_pos rfl] at h1
    exact ⟨by rw [R1.length]; exact line_ok c, fun z hz => new_lst S1 hz R1 h1⟩
def gDct0 : GE := fun _ s => newO (.dk []) s
theorem je_dct0 : JE X W (.Dict [] [] pos) gDct0 := ⟨_, pe_dnewK, fun ρ s σ α H Q E S h p hp => by
  obtain ⟨S1, l1⟩ := S.alloc (o := .dk []) (u := .dK []) hp fun α' H' l q => ⟨[], q, rfl, rfl⟩
  refine h _ _ _ l1 S1 ⟨p, ?_, rfl⟩
  rw [← S.len, List.getElem?_append_right (Nat.le_refl _), Nat.sub_self]
  rfl⟩

/-! ### calls of built-ins by name -/
abbrev OpC := List D → Sto → Res D
def RefC (K : PySem.W.Frag) (r : List V → Hp → VK → Prop) (op : OpC) : Prop := ∀ xs ds α H s Q, SOk K α H s → RepL K α H ds xs → PV K (Rep K) α H (op ds s) Q → r xs H Q
def JC (X : Cx) (f : Value) (op : OpC) : Prop := ∃ r, CallR X f r ∧ RefC X.K r op
def opCor (f g : OpC) : OpC := fun ds s => (f ds s).or (g ds s)
theorem JC.or {f : Value} {p q : OpC} (ha : JC X f p) (hb : JC X f q) : JC X f (opCor p q) := by
  obtain ⟨r, p, q⟩ := ha
  obtain ⟨r', p', q'⟩ := hb
  refine ⟨_, p.or p', fun xs ds α H s Q S R h => ?_⟩
  rcases PV.or h with h | h
  · exact .inl (q xs ds α H s Q S R h)
  · exact .inr (q' xs ds α H s Q S R h)
def gCB (op : OpC) (g : GA) : GE := fun ρ s => (g ρ s).bind fun l s1 => (op l s1).still
theorem je_callB {x : Str} {p : Pos} {id : String} {op : OpC} (hc : JC X (.builtin id) op) (hg : Gl X x) (hm : X.mg x = none) (hv : bootBuiltins x = some (.builtin id)) (ha : JA X W (e :: es) gl) (hn : x ≠ "__name__" := by decide) (hdb : (x == ("__debug__" : Str)) = false := by decide)
    (he : starEach (e :: es) X.env = (false, eval e X.env) :: starEach es X.env := by rfl) (hpl : (backTo pos (starEach es X.env)).any (·.1) = false := by rfl) : JE X W (.Call (.Name x p) (e :: es) [] pos) (gCB op gl) := by
  obtain ⟨r, p1, q1⟩ := hc
  obtain ⟨t, p2, q2⟩ := ha
  exact ⟨_, pe_callB p1 hg hm hv p2 hn hdb he hpl, fun ρ s σ α H Q E S h => q2 ρ s σ α H _ E S (Post.bind h fun l s1 vs α1 H1 l1 S1 R1 h1 => q1 vs l α1 H1 s1 Q S1 R1 (Post.still h1))⟩
theorem rep1 {d : D} {xs : List V} (r : RepL K α H [d] xs) : ∃ v, xs = [v] ∧ Rep K α H d v := by
  obtain ⟨v, r', e, r1, r2⟩ := r
  rw [show r' = [] from r2] at e
  exact ⟨v, e, r1⟩
def lenSeq : OpC := fun ds s => match ds with
  | [d] => (match items? s d with
    | some l => .ok (.int (l.length : Int)) s
    | none => .bad)
  | _ => .bad
def lenTxt : OpC := fun ds s => match ds with
  | [.str z] => if decide (z.length ≤ line) then .ok (.int (z.length : Int)) s else .bad
  | _ => .bad
theorem jc_lenSeq : JC X (.builtin "len") lenSeq := ⟨_, call_len_seq, fun xs ds α H s Q S R h => by
  match ds, R, h with
  | [d], R, h =>
    have h1 : PV X.K (Rep X.K) α H (match items? s d with
      | some l => .ok (.int (l.length : Int)) s
      | none => .bad) Q := h
    cases q : items? s d with
    | none => rw [q] at h1; exact h1.elim
    | some l =>
      rw [q] at h1
      obtain ⟨v, rfl, r1⟩ := rep1 R
      obtain ⟨a, vs, rfl, hs, rl⟩ := items_rep S q r1
      refine ⟨a, vs, rfl, hs, ?_⟩
      rw [rl.length]
      exact PV.here h1 S rfl
  | [], _, h => exact h.elim
  | _ :: _ :: _, _, h => exact h.elim⟩
theorem jc_lenTxt : JC X (.builtin "len") lenTxt := ⟨_, call_len_str, fun xs ds α H s Q S R h => by
  unfold lenTxt at h
  split at h
  · split at h
    · next c =>
      obtain ⟨v, rfl, r1⟩ := rep1 R
      cases r1
      exact ⟨_, rfl, line_ok c, PV.here h S rfl⟩
    · exact h.elim
  · exact h.elim⟩
def lenDk : OpC := fun ds s => match ds with
  | [.ref n] => (match dw? s n with
    | some l => .ok (.int (l.length : Int)) s
    | none => .bad)
  | _ => .bad
theorem jc_lenDk : JC X (.builtin "len") lenDk := ⟨_, call_lenD, fun xs ds α H s Q S R h => by
  unfold lenDk at h
  split at h
  · split at h
    · next n l q =>
      obtain ⟨v, rfl, r1⟩ := rep1 R
      obtain ⟨a, kv, rfl, _, _, ha, rf⟩ := S.dw q r1
      refine ⟨a, kv, rfl, ha, ?_⟩
      rw [rf.len]
      exact PV.here h S rfl
    · exact h.elim
  · exact h.elim⟩
def lenD : OpC := opCor lenSeq (opCor lenTxt lenDk)
theorem jc_len : JC X (.builtin "len") lenD := jc_lenSeq.or (jc_lenTxt.or jc_lenDk)
/-- two ints in -/
def ii (g : Int → Int → D) : OpC := fun ds s => match ds with
  | [.int i, .int j] => .ok (g i j) s
  | _ => .bad
def maxD : OpC := ii fun i j => .int (if j > i then j else i)
def minD : OpC := ii fun i j => .int (if j < i then j else i)
def absD : OpC := fun ds s => match ds with
  | [.int i] => .ok (.int (if i < 0 then -i else i)) s
  | _ => .bad
/-! ### isinstance of built-in types -/
inductive Ty where
  | non | bool | int | str | tuple | list | dict
  deriving DecidableEq
def Ty.n : Ty → String
  | .non => "NoneType" | .bool => "bool" | .int => "int" | .str => "str" | .tuple => "tuple" | .list => "list" | .dict => "dict"
def Ty.is : Ty → Ty → Bool
  | .bool, .int => true
  | a, b => decide (a = b)
theorem Ty.kit : ∀ a b : Ty, b ≠ .non → kitB a.n b.n = some (a.is b) := by
  intro a b h
  cases a <;> cases b <;> first
    | exact absurd rfl h
    | decide +kernel
def tyOf (s : Sto) : D → Option Ty
  | .non => some .non
  | .bl _ => some .bool
  | .int _ => some .int
  | .str _ => some .str
  | .tup _ => some .tuple
  | .ref n => (match s[n]? with
    | some (.lst _) => some .list
    | some (.scr _) => some .list
    | some (.dk _) => some .dict
    | _ => none)
  | .hot _ _ => none
theorem tyOf_rep {d : D} {t : Ty} {v : V} (S : SOk K α H s) (h : tyOf s d = some t) (r : Rep K α H d v) : TyX K H v (.type t.n) := by
  cases d with
  | non => cases h; cases r; exact .base .non
  | bl b => cases h; cases r; exact .base (.bl _)
  | int i => cases h; cases r; exact .base (.int _)
  | str x => cases h; cases r; exact .base (.str _)
  | tup l =>
    cases h
    obtain ⟨a, vs, rfl, hT, rl⟩ := r
    rcases hT with (hT | ⟨o, hT⟩) | ⟨o, its, n, h1, h2, _⟩
    · exact .base (.tup hT)
    · exact .fTuple hT
    · exact .kTuple h1 h2
  | hot a dn => cases h
  | ref n =>
    have h' : (match s[n]? with
      | some (.lst _) => some Ty.list
      | some (.scr _) => some Ty.list
      | some (.dk _) => some Ty.dict
      | _ => none) = some t := h
    cases e : s[n]? with
    | none => rw [e] at h'; cases h'
    | some o =>
      rw [e] at h'
      obtain ⟨a, h1, h2⟩ := S.at_ n _ e
      obtain ⟨b, g1, rfl⟩ := r
      rw [h1] at g1
      cases g1
      cases o with
      | lst l =>
        cases h'
        obtain ⟨vs, q1, _⟩ := h2
        exact .base (.lst q1)
      | scr l =>
        cases h'
        obtain ⟨vs, q1, _⟩ := h2
        rcases q1 with ⟨o, q1⟩ | ⟨o, its, n, q1, q2, _⟩
        · exact .base (.frz q1)
        · exact .kList q1 q2
      | dk l =>
        cases h'
        obtain ⟨kv, q1, _⟩ := h2
        exact .base (.dK q1)
      | lk l => cases h'
      | ins c fs => cases h'
      | tab x => cases h'
      | xd fs => cases h'
      | dt l => cases h'
def gIsI (T : Ty) (a : GE) : GE := fun ρ s => (a ρ s).bind fun x s1 => match tyOf s1 x with
  | some t => .ok (.bl (t.is T)) s1
  | none => .bad
/-- isinstance(a, T): T a built-in class -/
theorem je_isI {x y : Str} {p p2 : Pos} (T : Ty) (hT : T ≠ .non) (ha : JE X W a ga) (hg : Gl X x) (hx : x = "isinstance") (hm : X.mg x = none) (hg2 : Gl X y) (hm2 : X.mg y = none) (hv2 : bootBuiltins y = some (.type T.n)) (hy : y ≠ "__name__" := by decide) (hdy : (y == ("__debug__" : Str)) = false := by decide)
    (he : starEach [a, .Name y p2] X.env = (false, eval a X.env) :: starEach [.Name y p2] X.env := by rfl) (he2 : starEach [.Name y p2] X.env = (false, eval (.Name y p2) X.env) :: starEach [] X.env := by rfl) (hpl : (backTo pos (starEach [.Name y p2] X.env)).any (·.1) = false := by rfl) :
    JE X W (.Call (.Name x p) [a, .Name y p2] [] pos) (gIsI T ga) := by
  subst hx
  obtain ⟨t, p1, q1⟩ := ha
  refine ⟨_, pe_callB call_isi hg hm PyProof.Rows.boot_isinstance (pa_cons p1 (pa_cons (pe_bltn (v := .ty T.n) hg2 hm2 hv2 rfl hy hdy) pa_nil he2) he) (by decide) (by decide) he hpl, fun ρ s σ α H Q E S h => q1 ρ s σ α H _ E S (Post.bind h fun d s1 v α1 H1 l1 S1 R1 h1 => ?_)⟩
  cases z : tyOf s1 d with
  | none => rw [z] at h1; exact h1.elim
  | some k =>
    rw [z] at h1
    exact ⟨v, .ty T.n, .type k.n, .type T.n, k.is T, rfl, .ty _, tyOf_rep S1 z R1, kit_ty (Ty.kit k T hT), Post.here h1 S1 rfl⟩

/-! ### methods of built-in types -/
abbrev OpM := D → List D → Sto → Res D
def RefM (K : PySem.W.Frag) (r : V → List V → Hp → VK → Prop) (op : OpM) : Prop := ∀ x xs d ds α H s Q, SOk K α H s → Rep K α H d x → RepL K α H ds xs → PV K (Rep K) α H (op d ds s) Q → r x xs H Q
def JM (X : Cx) (id : String) (op : OpM) : Prop := ∃ r, MtR X id r ∧ RefM X.K r op
def isL (s : Sto) : D → Bool
  | .ref n => (seq? s n).isSome
  | _ => false
theorem isL_rep {d : D} {v : V} (S : SOk K α H s) (h : isL s d = true) (r : Rep K α H d v) : tyV K "list" v H := by
  cases d with
  | ref n =>
    have h' : (seq? s n).isSome = true := h
    cases q : seq? s n with
    | none => rw [q] at h'; cases h'
    | some l =>
      obtain ⟨a, vs, rfl, hL, _⟩ := S.seq q r
      exact .inl ⟨rfl, vs, hL⟩
  | _ => cases h
def gLM (op : OpM) (o : GE) (g : GA) : GE := fun ρ s => (o ρ s).bind fun x s1 => match isL s1 x with
  | true => (g ρ s1).bind fun l s2 => (op x l s2).still
  | false => .bad
variable {o : Expr} {go : GE}
theorem je_lm {name : Str} {apos cpos : Pos} {id : String} {op : OpM} (slot : Slot "list" name id) (hty : typeOf (.builtin id) = pure (.type "method_descriptor")) (hm : JM X id op) (ho : JE X W o go) (ha : JA X W (e :: es) gl)
    (hbase : attributeBase o name X.env (eval o X.env) = eval o X.env := by rfl)
    (hfew : ((backTo cpos (starEach (e :: es) X.env)).all (fun x => !x.1) && (backToKw cpos (keywordEach [] X.env)).all (fun x => x.1.isSome) && decide ((e :: es).length + ([] : List Keyword).length + (if ([] : List Keyword).isEmpty then 0 else 1) < 30)) = true := by rfl)
    (hline : (apos.endLine == cpos.line) = true := by rfl) (hs : starEach (e :: es) X.env = (false, eval e X.env) :: starEach es X.env := by rfl) (hplain : (backTo cpos (starEach es X.env)).any (·.1) = false := by rfl) :
    JE X W (.Call (.Attribute o name apos) (e :: es) [] cpos) (gLM op go gl) := by
  obtain ⟨r, p1, q1⟩ := hm
  obtain ⟨t, p2, q2⟩ := ho
  obtain ⟨u, p3, q3⟩ := ha
  refine ⟨_, pe_bm PySem.F.plainAttrs_list slot hty p1 p2 p3 hbase hfew hline hs hplain, fun ρ s σ α H Q E S h => q2 ρ s σ α H _ E S (Post.bind h fun d s1 v α1 H1 l1 S1 R1 h1 => ?_)⟩
  cases z : isL s1 d with
  | false => rw [z] at h1; exact h1.elim
  | true =>
    rw [z] at h1
    refine ⟨isL_rep S1 z R1, q3 ρ s1 σ α1 H1 _ (E.mono l1) S1 (Post.bind h1 fun l s2 vs α2 H2 l2 S2 R2 h2 => ?_)⟩
    exact q1 v vs d l α2 H2 s2 Q S2 (R1.mono l2) R2 (Post.still h2)
theorem je_lm0 {name : Str} {apos cpos : Pos} {id : String} {op : OpM} (slot : Slot "list" name id) (hty : typeOf (.builtin id) = pure (.type "method_descriptor")) (hm : JM X id op) (ho : JE X W o go)
    (hbase : attributeBase o name X.env (eval o X.env) = eval o X.env := by rfl) (hline : (apos.endLine == cpos.line) = true := by rfl) :
    JE X W (.Call (.Attribute o name apos) [] [] cpos) (gLM op go gNil) := by
  obtain ⟨r, p1, q1⟩ := hm
  obtain ⟨t, p2, q2⟩ := ho
  refine ⟨_, pe_bm0 PySem.F.plainAttrs_list slot hty p1 p2 hbase hline, fun ρ s σ α H Q E S h => q2 ρ s σ α H _ E S (Post.bind h fun d s1 v α1 H1 l1 S1 R1 h1 => ?_)⟩
  cases z : isL s1 d with
  | false => rw [z] at h1; exact h1.elim
  | true =>
    rw [z] at h1
    exact ⟨isL_rep S1 z R1, q1 v [] d [] α1 H1 s1 Q S1 R1 rfl (Post.still h1)⟩
/-- a list is changed -/
theorem set_lst {n : Nat} {p : Addr} {l l' : List D} {vs vs' : List V} {d : D} {v : V} {Q : V → Hp → Prop} (S : SOk K α H s) (e : s[n]? = some (.lst l)) (ea : α[n]? = some p) (h : H p = some (.lst vs)) (r : RepL K α H l' vs')
    (rd : ∀ H', Le K α H α H' → Rep K α H' d v) (q : PV K (Rep K) α H (.ok d (s.set n (.lst l'))) Q) : Q v (upd H p (.lst vs')) := by
  obtain ⟨S1, l1⟩ := S.write (u := .lst vs) (u' := .lst vs') (o' := .lst l') e ea h rfl rfl (fun _ z => by cases z) (fun _ _ z => by cases z) fun H' l z => ⟨vs', z, r.monoT l⟩
  exact q _ _ _ l1 S1 (rd _ l1)
def appendD : OpM := fun x xs s => match x, xs with
  | .ref n, [d] => (match lst? s n with
    | some l => if decide (l.length < line) then .ok .non (s.set n (.lst (l ++ [d]))) else .bad
    | none => .bad)
  | _, _ => .bad
theorem jm_append : JM X "list.append" appendD := ⟨_, mt_append, fun x xs d ds α H s Q S R1 R2 h => by
  unfold appendD at h
  split at h
  · next n d =>
    cases q : lst? s n with
    | none => rw [q] at h; exact h.elim
    | some l =>
      rw [q] at h
      have h1 : PV X.K (Rep X.K) α H (if decide (l.length < line) then .ok .non (s.set n (.lst (l ++ [d]))) else .bad) Q := h
      cases c : decide (l.length < line) with
      | false => rw [c] at h1; exact h1.elim
      | true =>
        rw [c, if_pos rfl] at h1
        obtain ⟨p, vs, rfl, ea, e, hp, rl⟩ := S.lst q R1
        obtain ⟨v, rfl, r1⟩ := rep1 R2
        refine ⟨p, vs, v, rfl, rfl, hp, ?_, set_lst (l' := l ++ [d]) (vs' := vs ++ [v]) (d := .non) (v := .non) S e ea hp (rl.append ⟨v, [], rfl, r1, rfl⟩) (fun _ _ => rfl) h1⟩
        rw [rl.length]
        exact Nat.lt_of_lt_of_le (of_decide_eq_true c) (by decide)
  · exact h.elim⟩
def popD : OpM := fun x xs s => match x, xs with
  | .ref n, [] => (match lst? s n with
    | some l => (match l[l.length - 1]? with
      | some d => .ok d (s.set n (.lst l.dropLast))
      | none => .bad)
    | none => .bad)
  | _, _ => .bad
theorem jm_pop : JM X "list.pop" popD := ⟨_, mt_pop, fun x xs d ds α H s Q S R1 R2 h => by
  unfold popD at h
  split at h
  · next n =>
    cases q : lst? s n with
    | none => rw [q] at h; exact h.elim
    | some l =>
      rw [q] at h
      have h1 : PV X.K (Rep X.K) α H (match l[l.length - 1]? with
        | some d => .ok d (s.set n (.lst l.dropLast))
        | none => .bad) Q := h
      cases c : l[l.length - 1]? with
      | none => rw [c] at h1; exact h1.elim
      | some y =>
        rw [c] at h1
        obtain ⟨p, vs, rfl, ea, e, hp, rl⟩ := S.lst q R1
        obtain ⟨v, g1, g2⟩ := rl.get c
        refine ⟨p, vs, v, rfl, R2, hp, by rw [rl.length]; exact g1, set_lst S e ea hp rl.dropLast (fun _ l => g2.mono l) h1⟩
  · exact h.elim⟩
/-! methods of texts -/
def gSM (op : OpM) (o : GE) (g : GE) : GE := fun ρ s => (o ρ s).bind fun x s1 => match x with
  | .str z => (g ρ s1).bind fun y s2 => (op (.str z) [y] s2).still
  | _ => .bad
def gSM0 (op : OpM) (o : GE) : GE := fun ρ s => (o ρ s).bind fun x s1 => match x with
  | .str z => (op (.str z) [] s1).still
  | _ => .bad
/-! n.bit_length() -/
def gBits (a : GE) : GE := fun ρ s => (a ρ s).bind fun x s1 => match x with
  | .int i => .ok (.int (Builtin.Int.intBits i : Nat)) s1
  | _ => .bad
theorem je_bits {apos : Pos} (ho : JE X W o go) (hbase : attributeBase o "bit_length" X.env (eval o X.env) = eval o X.env := by rfl) (hline : (apos.endLine == pos.line) = true := by rfl) : JE X W (.Call (.Attribute o "bit_length" apos) [] [] pos) (gBits go) := by
  obtain ⟨t, p, q⟩ := ho
  refine ⟨_, pe_bits p hbase hline, fun ρ s σ α H Q E S h => q ρ s σ α H _ E S (Post.bind h fun d s1 v α1 H1 l1 S1 R1 h1 => ?_)⟩
  cases d with
  | int i =>
    cases R1
    exact ⟨i, rfl, Post.here h1 S1 rfl⟩
  | _ => exact h1.elim
/-! d.get(k), d.get(k, x) -/
def isDk (s : Sto) : D → Bool
  | .ref n => (dk? s n).isSome
  | _ => false
def getOf (x k y : D) (s : Sto) : Res D := match x, key? k with
  | .ref n, some k => (match dk? s n with
    | some l => (match valD l k with
      | some d => .ok d s
      | none => .ok y s)
    | none => .bad)
  | _, _ => .bad
def gGet1 (o g : GE) : GE := fun ρ s => (o ρ s).bind fun x s1 => match isDk s1 x with
  | true => (g ρ s1).bind fun k s2 => getOf x k .non s2
  | false => .bad
def gGet2 (o g f : GE) : GE := fun ρ s => (o ρ s).bind fun x s1 => match isDk s1 x with
  | true => (g ρ s1).bind fun k s2 => (f ρ s2).bind fun y s3 => getOf x k y s3
  | false => .bad
theorem isDk_rep {d : D} {v : V} (S : SOk K α H s) (h : isDk s d = true) (r : Rep K α H d v) : ∃ a, v = .ref a ∧ IsD H a := by
  cases d with
  | ref n =>
    have h' : (dk? s n).isSome = true := h
    cases q : dk? s n with
    | none => rw [q] at h'; cases h'
    | some l =>
      obtain ⟨a, kv, rfl, _, _, ha, _⟩ := S.dk q r
      exact ⟨a, rfl, .inl ⟨kv, ha⟩⟩
  | _ => cases h
theorem get_rep {x y k : D} {v vy vk : V} (S : SOk K α H s) (r : Rep K α H x v) (rk : Rep K α H k vk) (ry : Rep K α H y vy) {Q : V → Hp → Prop}
    (h : Post K (Rep K) W α H σ (getOf x k y s) Q) {a : Addr} (ea : v = .ref a) : ∃ o, DGet H a vk o ∧ Q (o.getD vy) H := by
  unfold getOf at h
  split at h
  · next n kk q =>
    split at h
    · next l q2 =>
      obtain ⟨b, kv, e2, _, _, hb, rf⟩ := S.dk q2 r
      have e3 : a = b := by
        have := ea.symm.trans e2
        injection this
      subst e3
      refine ⟨valV kv kk, .inl ⟨kv, kk, hb, key_rep q rk, rfl⟩, ?_⟩
      obtain ⟨f1, f2⟩ := rf.val (k := kk)
      split at h
      · next d' z =>
        obtain ⟨u, g1, g2⟩ := f1 d' z
        rw [g1]
        exact Post.here h S g2
      · next z =>
        rw [f2 z]
        exact Post.here h S ry
    · exact h.elim
  · exact h.elim
theorem je_get1 {k : Nat} {apos cpos : Pos} (hr : Room k X.A) (ho : JE X W o go) (ha : JE X W e ga) (m : M1 X o "get" apos e cpos := by exact ⟨rfl, rfl, rfl, rfl⟩) : JE X W (.Call (.Attribute o "get" apos) [e] [] cpos) (gGet1 go ga) := by
  obtain ⟨t, p, q⟩ := ho
  obtain ⟨u, p', q'⟩ := ha
  refine ⟨_, pe_dget1 (hu_of hr) p p' m, fun ρ s σ α H Q E S h => q ρ s σ α H _ E S (Post.bind h fun d s1 v α1 H1 l1 S1 R1 h1 => ?_)⟩
  cases z : isDk s1 d with
  | false => rw [z] at h1; exact h1.elim
  | true =>
    rw [z] at h1
    obtain ⟨a, ea, hD⟩ := isDk_rep S1 z R1
    exact ⟨a, ea, hD, q' ρ s1 σ α1 H1 _ (E.mono l1) S1 (Post.bind h1 fun d2 s2 v2 α2 H2 l2 S2 R2 h2 => get_rep (y := .non) (vy := .non) S2 (R1.mono l2) R2 rfl h2 ea)⟩
end
end PD

/-! Pd4: statements, loops, comprehensions, defs. -/
namespace PD
open PySem L2
def SPost (K : PySem.W.Frag) (W : WX) (α : List Addr) (H : Hp) (r : RS) (D : Ends) : Prop := match r with
  | .nx ρ s => ∀ σ' α' H', Le K α H α' H' → SOk K α' H' s → ERel K α' H' ρ σ' → D.nx σ' H'
  | .bk ρ s => ∀ σ' α' H', Le K α H α' H' → SOk K α' H' s → ERel K α' H' ρ σ' → D.bk σ' H'
  | .ct ρ s => ∀ σ' α' H', Le K α H α' H' → SOk K α' H' s → ERel K α' H' ρ σ' → D.ct σ' H'
  | .rt d s => ∀ v α' H', Le K α H α' H' → SOk K α' H' s → Rep K α' H' d v → D.rt v H'
  | .err e ρ s => ∀ c dd σ' α' H', Le K α H α' H' → SOk K α' H' s → ERel K α' H' ρ σ' → XRep K α' H' e c dd → W c dd σ' H'
  | .bad => False
def RefS (K : PySem.W.Frag) (W : WX) (t : TS) (g : GS) : Prop := ∀ ρ s σ α H D, ERel K α H ρ σ → SOk K α H s → SPost K W α H (g ρ s) D → t D σ H
def JS (X : Cx) (W : WX) (st : Stmt) (g : GS) : Prop := ∃ t, PS X st t ∧ RefS X.K W t g
def JB (X : Cx) (W : WX) (sts : List Stmt) (g : GS) : Prop := ∃ t, PSs X sts t ∧ RefS X.K W t g
/-- a target: a value is taken -/
abbrev FG := D → En → Sto → Option (En × Sto)
def RefG (K : PySem.W.Frag) (t : TG) (g : FG) : Prop := ∀ d v ρ s σ α H Q, ERel K α H ρ σ → SOk K α H s → Rep K α H d v → (match g d ρ s with
  | some (ρ', s') => ∀ σ' α' H', Le K α H α' H' → SOk K α' H' s' → ERel K α' H' ρ' σ' → Q σ' H'
  | none => False) → t v σ H Q
def JG (X : Cx) (tg : Expr) (g : FG) : Prop := ∃ t, PG X tg t ∧ RefG X.K t g
section
variable {X : Cx} {W : WX} {K : PySem.W.Frag} {α α' α1 α2 : List Addr} {H H' H1 H2 : Hp} {s s' s1 s2 : Sto} {ρ ρ' : En} {σ σ' : L2.St} {DD : Ends}
variable {e a b c o i : Expr} {es rest : List Expr} {ga gb gc go gi : GE} {gl : GA} {ta tb : GT} {pos : Pos} {stm : Stmt} {sts body : List Stmt} {gs gr : GS}
theorem SPost.mono {r : RS} (l : Le K α H α1 H1) (h : SPost K W α H r DD) : SPost K W α1 H1 r DD := by
  cases r with
  | nx ρ s => exact fun σ' α' H' l1 => h σ' α' H' (l.trans l1)
  | bk ρ s => exact fun σ' α' H' l1 => h σ' α' H' (l.trans l1)
  | ct ρ s => exact fun σ' α' H' l1 => h σ' α' H' (l.trans l1)
  | rt d s => exact fun v α' H' l1 => h v α' H' (l.trans l1)
  | err e ρ s => exact fun c dd σ' α' H' l1 => h c dd σ' α' H' (l.trans l1)
  | bad => exact h
/-- behind a result -/
theorem SPost.st {β γ : Type} {rel : List Addr → Hp → β → γ → Prop} {r : Res β} {k : β → Sto → RS} {Q' : γ → Hp → Prop} (E : ERel K α H ρ σ) (h : SPost K W α H (r.st ρ k) DD)
    (hk : ∀ d s1 v α1 H1, Le K α H α1 H1 → SOk K α1 H1 s1 → rel α1 H1 d v → SPost K W α1 H1 (k d s1) DD → Q' v H1) : Post K rel W α H σ r Q' := by
  cases r with
  | ok d s => exact fun v α' H' l S R => hk d s v α' H' l S R (SPost.mono (r := k d s) l h)
  | err e s => exact fun c dd α' H' l S R => h c dd σ α' H' l S (E.mono l) R
  | bad => exact h

/-! ### simple statements -/
def gSkip : GS := fun ρ s => .nx ρ s
def gSeq (a b : GS) : GS := fun ρ s => (a ρ s).next b
theorem jb_nil : JB X W [] gSkip := ⟨_, pss_nil, fun ρ s σ α H D E S h => h σ α H Le.refl S E⟩
theorem jb_cons (h1 : JS X W stm gs) (h2 : JB X W sts gr) : JB X W (stm :: sts) (gSeq gs gr) := by
  obtain ⟨t, p, q⟩ := h1
  obtain ⟨u, p', q'⟩ := h2
  refine ⟨_, pss_cons p p', fun ρ s σ α H D E S h => q ρ s σ α H _ E S ?_⟩
  unfold gSeq at h
  cases r : gs ρ s with
  | nx ρ1 s1 =>
    rw [r] at h
    exact fun σ1 α1 H1 l S1 E1 => q' ρ1 s1 σ1 α1 H1 D E1 S1 (SPost.mono (r := gr ρ1 s1) l h)
  | bk ρ1 s1 => rw [r] at h; exact h
  | ct ρ1 s1 => rw [r] at h; exact h
  | rt ρ1 s1 => rw [r] at h; exact h
  | err e ρ1 s1 => rw [r] at h; exact h
  | bad => rw [r] at h; exact h
theorem jb_one (h1 : JS X W stm gs) : JB X W [stm] gs := by
  obtain ⟨t, p, q⟩ := h1
  exact ⟨t, pss_one p, q⟩
def gBreak : GS := fun ρ s => .bk ρ s
def gCont : GS := fun ρ s => .ct ρ s
theorem js_cont : JS X W (.Continue pos) gCont := ⟨_, ps_continue, fun ρ s σ α H D E S h => h σ α H Le.refl S E⟩
def gExpr (a : GE) : GS := fun ρ s => (a ρ s).st ρ fun _ s1 => .nx ρ s1
theorem js_expr (ha : JE X W a ga) (hs : swapsWith a none pos.line X.env = pure false := by rfl) : JS X W (.Expr a pos) (gExpr ga) := by
  obtain ⟨t, p, q⟩ := ha
  exact ⟨_, ps_expr p hs, fun ρ s σ α H D E S h => q ρ s σ α H _ E S (SPost.st E h fun d s1 v α1 H1 l S1 R h1 => h1 σ α1 H1 Le.refl S1 (E.mono l))⟩
def gRet (a : GE) : GS := fun ρ s => (a ρ s).st ρ fun x s1 => .rt x s1
theorem js_ret (ha : JE X W a ga) : JS X W (.Return (some a) pos) (gRet ga) := by
  obtain ⟨t, p, q⟩ := ha
  exact ⟨_, ps_ret p, fun ρ s σ α H D E S h => q ρ s σ α H _ E S (SPost.st E h fun d s1 v α1 H1 l S1 R h1 => h1 v α1 H1 Le.refl S1 R)⟩
def gRetN : GS := fun ρ s => .rt .non s
def gIf (c : GT) (a b : GS) : GS := fun ρ s => (c ρ s).st ρ fun x s1 => match x with
  | true => a ρ s1
  | false => b ρ s1
theorem js_if {p q : List Stmt} (hc : JT X W c ta) (ha : JB X W p gs) (hb : JB X W q gr) : JS X W (.If c p q pos) (gIf ta gs gr) := by
  obtain ⟨tc, pc, qc⟩ := hc
  obtain ⟨t, p1, q1⟩ := ha
  obtain ⟨u, p2, q2⟩ := hb
  refine ⟨_, ps_if pc p1 p2, fun ρ s σ α H D E S h => qc ρ s σ α H _ E S (SPost.st E h fun d s1 v α1 H1 l S1 R h1 => ?_)⟩
  cases R
  cases d with
  | true => exact q1 ρ s1 σ α1 H1 D (E.mono l) S1 h1
  | false => exact q2 ρ s1 σ α1 H1 D (E.mono l) S1 h1

/-! ### targets, assignments -/
def gName_ (i : Nat) : FG := fun d ρ s => some (ρ.set i (some d), s)
theorem jg_name {i : Nat} {x : Str} (hN : X.N.Nodup) (hi : X.N[i]? = some x := by rfl) (hx : Loc X.env.scope x := by first | exact Or.inl rfl | exact Or.inr rfl) (hf : X.fn x = true ∨ X.env.scope.names.lookup x = some .local := by first | exact .inl rfl | exact .inr rfl) : JG X (.Name x pos) (gName_ i) :=
  ⟨_, pg_name hN hi hx hf, fun d v ρ s σ α H Q E S R h => h _ α H Le.refl S (E.set R)⟩
def gTNil : List D → En → Sto → Option (En × Sto) := fun ds ρ s => match ds with
  | [] => some (ρ, s)
  | _ => none
def gTCons (g : FG) (r : List D → En → Sto → Option (En × Sto)) : List D → En → Sto → Option (En × Sto) := fun ds ρ s => match ds with
  | d :: ds => (match g d ρ s with
    | some (ρ', s') => r ds ρ' s'
    | none => none)
  | [] => none
def RefGs (K : PySem.W.Frag) (t : TGs) (g : List D → En → Sto → Option (En × Sto)) : Prop := ∀ ds vs ρ s σ α H Q, ERel K α H ρ σ → SOk K α H s → RepL K α H ds vs → (match g ds ρ s with
  | some (ρ', s') => ∀ σ' α' H', Le K α H α' H' → SOk K α' H' s' → ERel K α' H' ρ' σ' → Q σ' H'
  | none => False) → t vs σ H Q
def JGs (X : Cx) (tgs : List Expr) (g : List D → En → Sto → Option (En × Sto)) : Prop := ∃ t, PGs X tgs t ∧ RefGs X.K t g
theorem jgs_nil : JGs X [] gTNil := ⟨_, pgs_nil, fun ds vs ρ s σ α H Q E S R h => by
  cases ds with
  | nil => exact ⟨R, h σ α H Le.refl S E⟩
  | cons d ds => exact h.elim⟩
theorem jgs_cons {g : FG} {gr : List D → En → Sto → Option (En × Sto)} (h1 : JG X e g) (h2 : JGs X es gr) (h : ∀ t u, PG X e t → PGs X es u → PGs X (e :: es) (L2.gCons t u) := by intro t u p q; exact pgs_cons p q) : JGs X (e :: es) (gTCons g gr) := by
  obtain ⟨t, p, q⟩ := h1
  obtain ⟨u, p', q'⟩ := h2
  refine ⟨_, h t u p p', fun ds vs ρ s σ α H Q E S R hq => ?_⟩
  cases ds with
  | nil => exact hq.elim
  | cons d ds =>
    obtain ⟨v, r, e1, R1, R2⟩ := R
    refine ⟨v, r, e1, q d v ρ s σ α H _ E S R1 ?_⟩
    unfold gTCons at hq
    cases z : g d ρ s with
    | none => simp only [z] at hq
    | some w =>
      obtain ⟨ρ1, s1⟩ := w
      simp only [z] at hq
      show ∀ σ' α' H', Le X.K α H α' H' → SOk X.K α' H' s1 → ERel X.K α' H' ρ1 σ' → u r σ' H' Q
      intro σ1 α1 H1 l S1 E1
      refine q' ds r ρ1 s1 σ1 α1 H1 Q E1 S1 (R2.mono l) ?_
      cases z2 : gr ds ρ1 s1 with
      | none => rw [z2] at hq; exact hq.elim
      | some w2 =>
        obtain ⟨ρ2, s2⟩ := w2
        rw [z2] at hq
        exact fun σ2 α2 H2 l2 => hq σ2 α2 H2 (l.trans l2)
/-- a, b = t: a tuple or a list -/
def gTupT (n : Nat) (g : List D → En → Sto → Option (En × Sto)) : FG := fun d ρ s => match items? s d with
  | some l => if decide (l.length = n) then g l ρ s else none
  | none => none
theorem PG.or {tg : Expr} {t t' : TG} (h : PG X tg t) (h' : PG X tg t') : PG X tg (fun v σ H Q => t v σ H Q ∨ t' v σ H Q) := ⟨fun pins s σ H v u Q I r q => q.elim (h.run pins s σ H v u Q I r) (h'.run pins s σ H v u Q I r)⟩
theorem jg_tup {g : List D → En → Sto → Option (En × Sto)} {k n : Nat} (hc : X.calm = true) (hg : JGs X es g) (hn : (assignEach es X.env).length = n := by rfl) (hst : (assignEach es X.env).findIdx? (·.1) = none := by rfl) : JG X (.Tuple es k pos) (gTupT n g) := by
  obtain ⟨t, p, q⟩ := hg
  refine ⟨_, PG.or (pg_tup hc p hn hst) (pg_lst hc p hn hst), fun d v ρ s σ α H Q E S R h => ?_⟩
  unfold gTupT at h
  cases z : items? s d with
  | none => simp only [z] at h
  | some l =>
    simp only [z] at h
    cases c : decide (l.length = n) with
    | false => rw [c] at h; exact h.elim
    | true =>
      rw [c, if_pos rfl] at h
      obtain ⟨a, vs, ev, hs, rl⟩ := items_rep S z R
      have hl : vs.length = n := by rw [rl.length]; exact of_decide_eq_true c
      rcases hs with hs | hs
      · exact .inr ⟨a, vs, ev, hs, hl, q l vs ρ s σ α H Q E S rl h⟩
      · exact .inl ⟨a, vs, ev, hs, hl, q l vs ρ s σ α H Q E S rl h⟩
def gAsg (a : GE) (g : FG) : GS := fun ρ s => (a ρ s).st ρ fun x s1 => match g x ρ s1 with
  | some (ρ', s') => .nx ρ' s'
  | none => .bad
theorem js_asg {tg : Expr} {g : FG} (ha : JE X W a ga) (hg : JG X tg g) (h : ∀ t u, PE X a t → PG X tg u → PS X (.Assign [tg] a pos) (tAsg t u) := by intro t u p q; exact ps_asg p q) : JS X W (.Assign [tg] a pos) (gAsg ga g) := by
  obtain ⟨t, p, q⟩ := ha
  obtain ⟨u, p', q'⟩ := hg
  refine ⟨_, h t u p p', fun ρ s σ α H D E S h => q ρ s σ α H _ E S (SPost.st E h fun d s1 v α1 H1 l S1 R h1 => q' d v ρ s1 σ α1 H1 _ (E.mono l) S1 R ?_)⟩
  cases z : g d ρ s1 with
  | none => rw [z] at h1; exact h1
  | some w =>
    obtain ⟨ρ', s'⟩ := w
    rw [z] at h1
    exact h1
/-- x = e -/
def gSet (i : Nat) (a : GE) : GS := fun ρ s => (a ρ s).st ρ fun x s1 => .nx (ρ.set i (some x)) s1
theorem js_set {i : Nat} {x : Str} {pos' : Pos} (hN : X.N.Nodup) (ha : JE X W a ga) (hi : X.N[i]? = some x := by rfl) (hx : Loc X.env.scope x := by first | exact Or.inl rfl | exact Or.inr rfl) (hs : swapsWith a (some (.Name x pos')) pos.line X.env = pure false := by rfl) (hf : X.fn x = true ∨ X.env.scope.names.lookup x = some .local := by first | exact .inl rfl | exact .inr rfl) : JS X W (.Assign [.Name x pos'] a pos) (gSet i ga) := by
  obtain ⟨t, p, q⟩ := ha
  exact ⟨_, ps_set hN hi hx p hs hf, fun ρ s σ α H D E S h => q ρ s σ α H _ E S (SPost.st E h fun d s1 v α1 H1 l S1 R h1 => h1 _ α1 H1 Le.refl S1 ((E.mono l).set R))⟩
/-- a, b = e1, e2: both at once -/
def gPar (i j : Nat) (a : GA) : GS := fun ρ s => (a ρ s).st ρ fun l s1 => match l with
  | [x, y] => .nx ((ρ.set i (some x)).set j (some y)) s1
  | _ => .bad
/-- o[i] = e: a list, a dict -/
def setLst (o i v : D) (s : Sto) : Option Sto := match o, i with
  | .ref n, .int k => (match lst? s n with
    | some l => (match ixN l.length k with
      | some j => some (s.set n (.lst (l.set j v)))
      | none => none)
    | none => none)
  | _, _ => none
def setDk (o i v : D) (s : Sto) : Option Sto := match o, key? i with
  | .ref n, some k => (match dw? s n with
    | some l => if decide (l.length < line) then some (s.set n (.dk (putD l k v))) else none
    | none => none)
  | _, _ => none
def gPut (o i e : GE) : GS := fun ρ s => (e ρ s).st ρ fun v s1 => (o ρ s1).st ρ fun x s2 => (i ρ s2).st ρ fun k s3 => match setLst x k v s3 with
  | some s' => .nx ρ s'
  | none => (match setDk x k v s3 with
    | some s' => .nx ρ s'
    | none => .bad)
theorem PS.or {t t' : TS} (h : PS X stm t) (h' : PS X stm t') : PS X stm (fun D σ H => t D σ H ∨ t' D σ H) := ⟨fun pins s σ H D I q => q.elim (h.run pins s σ H D I) (h'.run pins s σ H D I)⟩
theorem set_dk {n : Nat} {p : Addr} {l l' : List (Key × D)} {kv kv' : List (Key × V)} {P : Hp → Prop} (S : SOk K α H s) (e : s[n]? = some (.dk l)) (ea : α[n]? = some p) (h : H p = some (.dK kv)) (r : RepF K α H l' kv')
    (q : ∀ α' H', Le K α H α' H' → SOk K α' H' (s.set n (.dk l')) → P H') : P (upd H p (.dK kv')) := by
  obtain ⟨S1, l1⟩ := S.write (u := .dK kv) (u' := .dK kv') (o' := .dk l') e ea h rfl rfl (fun _ z => by cases z) (fun _ _ z => by cases z) fun H' l z => ⟨kv', z, r.monoT l⟩
  exact q _ _ l1 S1
theorem js_put {k : Nat} {pos' : Pos} (hr : Room k X.A) (he : JE X W e ga) (ho : JE X W o go) (hi : JE X W i gi) (hs : swapsWith e (some (.Subscript o i pos')) pos.line X.env = pure false := by rfl)
    (h1 : ∀ te to ti, PE X e te → PE X o to → PE X i ti → PS X (.Assign [.Subscript o i pos'] e pos) (tAsg te (gSub to ti rSetL)) := by intro te to ti p q r; exact ps_asg p (pg_sub q r set_list)) :
    JS X W (.Assign [.Subscript o i pos'] e pos) (gPut go gi ga) := by
  obtain ⟨te, p, q⟩ := he
  obtain ⟨to, p', q'⟩ := ho
  obtain ⟨ti, p2, q2⟩ := hi
  refine ⟨_, PS.or (h1 te to ti p p' p2) (ps_dput (hu_of hr) p' p2 p hs), fun ρ s σ α H D E S h => ?_⟩
  -- both readings take the same way to the three values
  have way : ∀ F : V → V → V → Hp → Prop, (∀ dv dx dk s3 v x k α3 H3, Le X.K α H α3 H3 → SOk X.K α3 H3 s3 → Rep X.K α3 H3 dv v → Rep X.K α3 H3 dx x → Rep X.K α3 H3 dk k →
      SPost X.K W α3 H3 (match setLst dx dk dv s3 with
        | some s' => .nx ρ s'
        | none => (match setDk dx dk dv s3 with
          | some s' => .nx ρ s'
          | none => .bad)) D → (∃ s1 s2, ga ρ s = .ok dv s1 ∧ go ρ s1 = .ok dx s2 ∧ gi ρ s2 = .ok dk s3) → F v x k H3) → te σ H fun v H1 => to σ H1 fun x H2 => ti σ H2 fun k H3 => F v x k H3 := by
    intro F hF
    unfold gPut at h
    cases z1 : ga ρ s with
    | bad => rw [z1] at h; exact h.elim
    | err ee s1 => rw [z1] at h; exact q ρ s σ α H _ E S (by rw [z1]; exact fun c dd α' H' l S R => h c dd σ α' H' l S (E.mono l) R)
    | ok dv s1 =>
      rw [z1] at h
      have h' : SPost X.K W α H ((go ρ s1).st ρ fun x s2 => (gi ρ s2).st ρ fun k s3 => match setLst x k dv s3 with
        | some s' => .nx ρ s'
        | none => (match setDk x k dv s3 with
          | some s' => .nx ρ s'
          | none => .bad)) D := h
      refine q ρ s σ α H _ E S (by
        rw [z1]
        intro v α1 H1 l1 S1 R1
        refine q' ρ s1 σ α1 H1 _ (E.mono l1) S1 ?_
        have h2 := SPost.mono l1 h'
        cases z2 : go ρ s1 with
        | bad => rw [z2] at h2; exact h2.elim
        | err ee s2 => rw [z2] at h2; exact fun c dd α' H' l S R => h2 c dd σ α' H' l S ((E.mono l1).mono l) R
        | ok dx s2 =>
          rw [z2] at h2
          intro x α2 H2 l2 S2 R2
          refine q2 ρ s2 σ α2 H2 _ (E.mono (l1.trans l2)) S2 ?_
          have h3 := SPost.mono l2 (show SPost X.K W α1 H1 ((gi ρ s2).st ρ fun k s3 => match setLst dx k dv s3 with
            | some s' => .nx ρ s'
            | none => (match setDk dx k dv s3 with
              | some s' => .nx ρ s'
              | none => .bad)) D from h2)
          cases z3 : gi ρ s2 with
          | bad => rw [z3] at h3; exact h3.elim
          | err ee s3 => rw [z3] at h3; exact fun c dd α' H' l S R => h3 c dd σ α' H' l S ((E.mono (l1.trans l2)).mono l) R
          | ok dk s3 =>
            rw [z3] at h3
            intro k α3 H3 l3 S3 R3
            exact hF dv dx dk s3 v x k α3 H3 ((l1.trans l2).trans l3) S3 (R1.mono (l2.trans l3)) (R2.mono l3) R3 (SPost.mono l3 h3) ⟨s1, s2, z1, z2, z3⟩)
  by_cases hz : ∃ dv dx dk s1 s2 s3, ga ρ s = .ok dv s1 ∧ go ρ s1 = .ok dx s2 ∧ gi ρ s2 = .ok dk s3 ∧ setLst dx dk dv s3 = none
  · obtain ⟨dv, dx, dk, s1, s2, s3, e1, e2, e3, e4⟩ := hz
    refine .inr (way (fun v x k H3 => ∃ a H4, x = .ref a ∧ DPut H3 a k v H4 ∧ D.nx σ H4) fun dv' dx' dk' s3' v x k α3 H3 l S3 R1 R2 R3 h3 ⟨s1', s2', f1, f2, f3⟩ => ?_)
    rw [e1] at f1
    cases f1
    rw [e2] at f2
    cases f2
    rw [e3] at f3
    cases f3
    rw [e4] at h3
    have h4 : SPost X.K W α3 H3 (match setDk dx dk dv s3 with
      | some s' => .nx ρ s'
      | none => .bad) D := h3
    unfold setDk at h4
    cases dx with
    | ref n =>
      cases z : key? dk with
      | none => simp only [z] at h4; exact h4.elim
      | some kk =>
        simp only [z] at h4
        cases z2 : dw? s3 n with
        | none => simp only [z2] at h4; exact h4.elim
        | some kvs =>
          simp only [z2] at h4
          cases cc : decide (kvs.length < line) with
          | false => simp only [cc] at h4; exact h4.elim
          | true =>
            simp only [cc, if_true] at h4
            obtain ⟨p, kv, rfl, ea, ee, hp, rf⟩ := S3.dw z2 R2
            refine ⟨p, _, rfl, .inl ⟨kv, kk, hp, key_rep z R3, ?_, rfl⟩, ?_⟩
            · rw [rf.len]
              exact Nat.lt_of_lt_of_le (of_decide_eq_true cc) (by decide)
            · exact set_dk (P := D.nx σ) S3 ee ea hp (rf.put R1) fun α' H' l1 S' => h4 σ α' H' l1 S' (E.mono (l.trans l1))
    | _ => exact h4.elim
  · refine .inl (way (fun v x k H3 => rSetL x k v H3 fun H4 => D.nx σ H4) fun dv dx dk s3 v x k α3 H3 l S3 R1 R2 R3 h3 ⟨s1, s2, f1, f2, f3⟩ => ?_)
    cases z : setLst dx dk dv s3 with
    | none => exact absurd ⟨dv, dx, dk, s1, s2, s3, f1, f2, f3, z⟩ hz
    | some s' =>
      rw [z] at h3
      have h4 : SPost X.K W α3 H3 (.nx ρ s') D := h3
      cases dx with
      | ref n =>
        cases dk with
        | int kk =>
          have z1 : (match lst? s3 n with
            | some l => (match ixN l.length kk with
              | some j => some (s3.set n (.lst (l.set j dv)))
              | none => none)
            | none => none) = some s' := z
          cases q3 : lst? s3 n with
          | none => rw [q3] at z1; cases z1
          | some l2 =>
            rw [q3] at z1
            have z2 : (match ixN l2.length kk with
              | some j => some (s3.set n (.lst (l2.set j dv)))
              | none => none) = some s' := z1
            cases q4 : ixN l2.length kk with
            | none => rw [q4] at z2; cases z2
            | some j =>
              rw [q4] at z2
              cases z2
              obtain ⟨p, vs, rfl, ea, ee, hp, rl⟩ := S3.lst q3 R2
              cases R3
              refine ⟨p, vs, kk, j, rfl, rfl, hp, by rw [rl.length]; exact q4, ?_⟩
              exact set_lst (d := .non) (v := .non) (Q := fun _ H4 => D.nx σ H4) S3 ee ea hp (rl.set j R1) (fun _ _ => rfl) fun v' α' H' l1 S' _ => h4 σ α' H' l1 S' (E.mono (l.trans l1))
        | _ => cases z
      | _ => cases z
/-- x op= e -/
def gAug (i : Nat) (op : Op2) (a : GE) : GS := fun ρ s => match ρ[i]? with
  | some (some d) => (a ρ s).st ρ fun y s1 => match op d y s1 with
    | .ok z s2 => .nx (ρ.set i (some z)) s2
    | _ => .bad
  | _ => .bad
def iaddD : Op2 := op2or (iOp0 fun i j => .int (i + j)) addStr
/-! ### while -/
def whileG (c : GT) (b : GS) : Nat → GS
  | 0, _, _ => .bad
  | n + 1, ρ, s => (c ρ s).st ρ fun x s1 => match x with
    | true => (match b ρ s1 with
      | .nx ρ' s' => whileG c b n ρ' s'
      | .ct ρ' s' => whileG c b n ρ' s'
      | .bk ρ' s' => .nx ρ' s'
      | r => r)
    | false => .nx ρ s1
def lots : Nat := 2000000
theorem js_while {fuel : Nat} (hp : PassesOwn (model X.prog X.w) X.A X.env X.xe) (hc : JT X W c ta) (hb : JB X W body gs) : JS X W (.While c body [] pos) (whileG ta gs fuel) := by
  obtain ⟨tc, p, q⟩ := hc
  obtain ⟨tb, p', q'⟩ := hb
  refine ⟨_, ps_while hp p p', fun ρ s σ α H D E S h => ?_⟩
  refine ⟨fun m σ1 H1 => ∃ ρ1 s1 α1, ERel X.K α1 H1 ρ1 σ1 ∧ SOk X.K α1 H1 s1 ∧ SPost X.K W α1 H1 (whileG ta gs m ρ1 s1) D, ⟨fuel, ρ, s, α, E, S, h⟩, ?_⟩
  rintro m σ1 H1 ⟨ρ1, s1, α1, E1, S1, h1⟩
  cases m with
  | zero => exact h1.elim
  | succ m =>
    have h2 : SPost X.K W α1 H1 ((ta ρ1 s1).st ρ1 fun x s1 => match x with
      | true => (match gs ρ1 s1 with
        | .nx ρ' s' => whileG ta gs m ρ' s'
        | .ct ρ' s' => whileG ta gs m ρ' s'
        | .bk ρ' s' => .nx ρ' s'
        | r => r)
      | false => .nx ρ1 s1) D := h1
    refine q ρ1 s1 σ1 α1 H1 _ E1 S1 (SPost.st E1 h2 fun d s2 v α2 H2 l S2 R h3 => ?_)
    cases R
    cases d with
    | false => exact h3 σ1 α2 H2 Le.refl S2 (E1.mono l)
    | true =>
      refine ⟨fun σ' H' => ∃ ρ1 s1 α1, ERel X.K α1 H' ρ1 σ' ∧ SOk X.K α1 H' s1 ∧ SPost X.K W α1 H' (whileG ta gs m ρ1 s1) D, fun σ' H' w => ⟨m, Nat.lt_succ_self m, w⟩, q' ρ1 s2 σ1 α2 H2 _ (E1.mono l) S2 ?_⟩
      have h4 : SPost X.K W α2 H2 (match gs ρ1 s2 with
        | .nx ρ' s' => whileG ta gs m ρ' s'
        | .ct ρ' s' => whileG ta gs m ρ' s'
        | .bk ρ' s' => .nx ρ' s'
        | r => r) D := h3
      cases z : gs ρ1 s2 with
      | nx ρ' s' => rw [z] at h4; exact fun σ' α' H' l S' E' => ⟨ρ', s', α', E', S', SPost.mono (r := whileG ta gs m ρ' s') l h4⟩
      | ct ρ' s' => rw [z] at h4; exact fun σ' α' H' l S' E' => ⟨ρ', s', α', E', S', SPost.mono (r := whileG ta gs m ρ' s') l h4⟩
      | bk ρ' s' => rw [z] at h4; exact h4
      | rt d s' => rw [z] at h4; exact h4
      | err ee ρ' s' => rw [z] at h4; exact h4
      | bad => rw [z] at h4; exact h4

/-! ### what is walked -/
/-- at a turn, in a store: nothing known; at its end; an item -/
abbrev IT := Nat → Sto → Option (Option D)
def ItAt (K : PySem.W.Frag) (α1 : List Addr) (H1 : Hp) (s1 : Sto) (J : It) (i : Nat) (o : Option (Option D)) : Prop := match o with
  | none => True
  | some none => J.stop i H1
  | some (some d) => J.go i H1 ∧ ∀ x H2, J.yld i H1 x H2 → Le K α1 H1 α1 H2 ∧ SOk K α1 H2 s1 ∧ Rep K α1 H2 d x
def ItRel (K : PySem.W.Frag) (α : List Addr) (H : Hp) (it : IT) (J : It) : Prop := ∀ i α1 H1 s1, Le K α H α1 H1 → SOk K α1 H1 s1 → ItAt K α1 H1 s1 J i (it i s1)
theorem ItRel.mono {it : IT} {J : It} (l : Le K α H α1 H1) (h : ItRel K α H it J) : ItRel K α1 H1 it J := fun i α2 H2 s2 l2 S2 => h i α2 H2 s2 (l.trans l2) S2
abbrev FI := En → Sto → Res IT
def JI (X : Cx) (W : WX) (tg iter : Expr) (g : FI) : Prop := ∃ t, PI X tg iter t ∧ ∀ ρ s σ α H R, ERel X.K α H ρ σ → SOk X.K α H s → Post X.K (ItRel X.K) W α H σ (g ρ s) R → t σ H R
def forG (it : IT) (g : FG) (b : GS) : Nat → Nat → GS
  | 0, _, _, _ => .bad
  | n + 1, i, ρ, s => match it i s with
    | none => .bad
    | some none => .nx ρ s
    | some (some d) => (match g d ρ s with
      | none => .bad
      | some (ρ1, s1) => (match b ρ1 s1 with
        | .nx ρ' s' => forG it g b n (i + 1) ρ' s'
        | .ct ρ' s' => forG it g b n (i + 1) ρ' s'
        | .bk ρ' s' => .nx ρ' s'
        | r => r))
def gFor (fi : FI) (g : FG) (b : GS) : GS := fun ρ s => (fi ρ s).st ρ fun it s1 => forG it g b lots 0 ρ s1
theorem js_for {tg iter : Expr} {fi : FI} {g : FG} (hp : PassesOwn (model X.prog X.w) X.A X.env X.xe) (hc : X.calm = true) (hi : JI X W tg iter fi) (hg : JG X tg g) (hb : JB X W body gs)
    (h : ∀ wi gg tb, PassesOwn (model X.prog X.w) X.A X.env X.xe → X.calm = true → PI X tg iter wi → PG X tg gg → PSs X body tb → PS X (.For tg iter body [] pos) (tFor wi gg tb) := by intro wi gg tb a b p q r; exact ps_for a b p q r) : JS X W (.For tg iter body [] pos) (gFor fi g gs) := by
  obtain ⟨wi, p1, q1⟩ := hi
  obtain ⟨gg, p2, q2⟩ := hg
  obtain ⟨tb, p3, q3⟩ := hb
  refine ⟨_, h wi gg tb hp hc p1 p2 p3, fun ρ s σ α H D E S h => q1 ρ s σ α H _ E S (SPost.st E h fun it s1 J α1 H1 l1 S1 R1 h1 => ?_)⟩
  refine ⟨fun i m σ2 H2 => ∃ ρ2 s2 α2, Le X.K α1 H1 α2 H2 ∧ ERel X.K α2 H2 ρ2 σ2 ∧ SOk X.K α2 H2 s2 ∧ SPost X.K W α2 H2 (forG it g gs m i ρ2 s2) D, ⟨lots, ρ, s1, α1, Le.refl, E.mono l1, S1, h1⟩, ?_⟩
  rintro i m σ2 H2 ⟨ρ2, s2, α2, l2, E2, S2, h2⟩
  cases m with
  | zero => exact h2.elim
  | succ m =>
    have hit := R1 i α2 H2 s2 l2 S2
    have h3 : SPost X.K W α2 H2 (match it i s2 with
      | none => .bad
      | some none => .nx ρ2 s2
      | some (some d) => (match g d ρ2 s2 with
        | none => .bad
        | some (ρ1, s1) => (match gs ρ1 s1 with
          | .nx ρ' s' => forG it g gs m (i + 1) ρ' s'
          | .ct ρ' s' => forG it g gs m (i + 1) ρ' s'
          | .bk ρ' s' => .nx ρ' s'
          | r => r))) D := h2
    cases z : it i s2 with
    | none => rw [z] at h3; exact h3.elim
    | some w =>
      rw [z] at h3 hit
      cases w with
      | none => exact .inl ⟨hit, h3 σ2 α2 H2 Le.refl S2 E2⟩
      | some d =>
        obtain ⟨hgo, hy⟩ := hit
        refine .inr ⟨hgo, fun σ' H' => ∃ ρ2 s2 α2, Le X.K α1 H1 α2 H' ∧ ERel X.K α2 H' ρ2 σ' ∧ SOk X.K α2 H' s2 ∧ SPost X.K W α2 H' (forG it g gs m (i + 1) ρ2 s2) D, fun σ' H' w => ⟨m, Nat.lt_succ_self m, w⟩, fun x H3 hx => ?_⟩
        obtain ⟨l3, S3, R3⟩ := hy x H3 hx
        have h4 := SPost.mono l3 (show SPost X.K W α2 H2 (match g d ρ2 s2 with
          | none => .bad
          | some (ρ1, s1) => (match gs ρ1 s1 with
            | .nx ρ' s' => forG it g gs m (i + 1) ρ' s'
            | .ct ρ' s' => forG it g gs m (i + 1) ρ' s'
            | .bk ρ' s' => .nx ρ' s'
            | r => r)) D from h3)
        refine q2 d x ρ2 s2 σ2 α2 H3 _ (E2.mono l3) S3 R3 ?_
        cases z2 : g d ρ2 s2 with
        | none => rw [z2] at h4; exact h4.elim
        | some w =>
          obtain ⟨ρ4, s4⟩ := w
          rw [z2] at h4
          intro σ4 α4 H4 l4 S4 E4
          refine q3 ρ4 s4 σ4 α4 H4 _ E4 S4 ?_
          have h5 := SPost.mono l4 (show SPost X.K W α2 H3 (match gs ρ4 s4 with
            | .nx ρ' s' => forG it g gs m (i + 1) ρ' s'
            | .ct ρ' s' => forG it g gs m (i + 1) ρ' s'
            | .bk ρ' s' => .nx ρ' s'
            | r => r) D from h4)
          have l5 := (l2.trans l3).trans l4
          cases z3 : gs ρ4 s4 with
          | nx ρ' s' => rw [z3] at h5; exact fun σ' α' H' l S' E' => ⟨ρ', s', α', l5.trans l, E', S', SPost.mono (r := forG it g gs m (i + 1) ρ' s') l h5⟩
          | ct ρ' s' => rw [z3] at h5; exact fun σ' α' H' l S' E' => ⟨ρ', s', α', l5.trans l, E', S', SPost.mono (r := forG it g gs m (i + 1) ρ' s') l h5⟩
          | bk ρ' s' => rw [z3] at h5; exact h5
          | rt d s' => rw [z3] at h5; exact h5
          | err ee ρ' s' => rw [z3] at h5; exact h5
          | bad => rw [z3] at h5; exact h5
/-! the walked things -/
def itSeq (d : D) : IT := fun i s => match items? s d with
  | some l => some l[i]?
  | none => none
def gIt (a : GE) : FI := fun ρ s => (a ρ s).bind fun x s1 => match items? s1 x with
  | some _ => .ok (itSeq x) s1
  | none => .bad
theorem PI.or {tg iter : Expr} {t t' : TI} (h : PI X tg iter t) (h' : PI X tg iter t') : PI X tg iter (fun σ H R => t σ H R ∨ t' σ H R) := ⟨fun pins s σ H R I q => q.elim (h.run pins s σ H R I) (h'.run pins s σ H R I)⟩
theorem itSeq_l {n : Nat} {a : Addr} (ha : α[n]? = some a) : ItRel K α H (itSeq (.ref n)) (Itl K a) := fun i α1 H1 s1 l S1 => by
  have r : Rep K α1 H1 (.ref n) (.ref a) := ⟨a, l.get ha, rfl⟩
  unfold itSeq
  cases z : items? s1 (.ref n) with
  | none => trivial
  | some l1 =>
    obtain ⟨b, vs, eb, hL, rl⟩ := S1.seq z r
    cases eb
    show ItAt K α1 H1 s1 (Itl K a) i (some l1[i]?)
    cases z2 : l1[i]? with
    | none => exact ⟨vs, hL, by rw [rl.length]; exact List.getElem?_eq_none_iff.mp z2⟩
    | some d =>
      obtain ⟨v, g1, g2⟩ := rl.get z2
      refine ⟨⟨vs, v, hL, g1⟩, fun x H2 hy => ?_⟩
      obtain ⟨e1, e2⟩ := hy
      subst e1
      have := e2 vs hL
      rw [g1] at this
      cases this
      exact ⟨Le.refl, S1, g2⟩
theorem itSeq_t {l : List D} {a : Addr} {vs : List V} (hT : SqT K H a vs) (rl : RepL K α H l vs) : ItRel K α H (itSeq (.tup l)) (Itt K a) := fun i α1 H1 s1 le S1 => by
  show ItAt K α1 H1 s1 (Itt K a) i (some l[i]?)
  have hT1 := le.tup _ _ hT
  have rl1 := rl.mono le
  cases z2 : l[i]? with
  | none => exact ⟨vs, hT1, by rw [rl.length]; exact List.getElem?_eq_none_iff.mp z2⟩
  | some d =>
    obtain ⟨v, g1, g2⟩ := rl1.get z2
    refine ⟨⟨vs, v, hT1, g1⟩, fun x H2 hy => ?_⟩
    obtain ⟨e1, e2⟩ := hy
    subst e1
    have := e2 vs hT1
    rw [g1] at this
    cases this
    exact ⟨Le.refl, S1, g2⟩
theorem ji_seq {tg : Expr} (ha : JE X W a ga) : JI X W tg a (gIt ga) := by
  obtain ⟨t, p, q⟩ := ha
  refine ⟨_, PI.or (pi_list p) (pi_tup p), fun ρ s σ α H R E S h => ?_⟩
  unfold gIt at h
  cases z : ga ρ s with
  | bad => rw [z] at h; exact h.elim
  | err ee s1 => rw [z] at h; exact .inl (q ρ s σ α H _ E S (by rw [z]; exact h))
  | ok d s1 =>
    rw [z] at h
    have h1 : Post X.K (ItRel X.K) W α H σ (match items? s1 d with
      | some _ => .ok (itSeq d) s1
      | none => .bad) R := h
    cases z2 : items? s1 d with
    | none => rw [z2] at h1; exact h1.elim
    | some l =>
      rw [z2] at h1
      have h2 : Post X.K (ItRel X.K) W α H σ (.ok (itSeq d) s1) R := h1
      cases d with
      | ref n =>
        refine .inl (q ρ s σ α H _ E S (by
          rw [z]
          intro v α1 H1 l1 S1 R1
          obtain ⟨a, vs, rfl, hL, rl⟩ := S1.seq z2 R1
          obtain ⟨b, g1, g2⟩ := R1
          cases g2
          exact ⟨a, rfl, ⟨vs, hL⟩, h2 _ α1 H1 l1 S1 (itSeq_l g1)⟩))
      | tup l' =>
        refine .inr (q ρ s σ α H _ E S (by
          rw [z]
          intro v α1 H1 l1 S1 R1
          obtain ⟨a, vs, rfl, hT, rl⟩ := R1
          exact ⟨a, rfl, ⟨vs, hT⟩, h2 _ α1 H1 l1 S1 (itSeq_t hT rl)⟩))
      | _ => cases z2
def itRng (lo : Int) (n : Nat) : IT := fun i _ => some (if i < n then some (.int (lo + i)) else none)
@[irreducible] def rngOk (i : Int) : Bool := decide (-(2 ^ 62) ≤ i) && decide (i < 2 ^ 62)
def gRng1 (a : GE) : FI := fun ρ s => (a ρ s).bind fun x s1 => match x with
  | .int j => if rngOk j then .ok (itRng 0 j.toNat) s1 else .bad
  | _ => .bad
def gRng2 (a b : GE) : FI := fun ρ s => (a ρ s).bind fun x s1 => (b ρ s1).bind fun y s2 => match x, y with
  | .int i, .int j => if rngOk i && rngOk j then .ok (itRng i (j - i).toNat) s2 else .bad
  | _, _ => .bad
theorem itRng_ok {lo : Int} {n : Nat} : ItRel K α H (itRng lo n) (Itr lo n) := fun i α1 H1 s1 l S1 => by
  show ItAt K α1 H1 s1 (Itr lo n) i (some (if i < n then some (D.int (lo + i)) else none))
  by_cases h : i < n
  · rw [if_pos h]
    refine ⟨h, fun x H2 hy => ?_⟩
    obtain ⟨rfl, rfl⟩ := hy
    exact ⟨Le.refl, S1, rfl⟩
  · rw [if_neg h]
    exact Nat.le_of_not_lt h
theorem rngOk_of {i : Int} (h : rngOk i = true) : -(2 ^ 62) ≤ i ∧ i < 2 ^ 62 := by
  unfold rngOk at h
  obtain ⟨h1, h2⟩ := Bool.and_eq_true_iff.mp h
  exact ⟨of_decide_eq_true h1, of_decide_eq_true h2⟩
theorem ji_rng1 {tg : Expr} {p pos : Pos} (hg : Gl X "range") (hm : X.mg "range" = none) (ha : JE X W a ga) (hs : starEach [a] X.env = [(false, eval a X.env)] := by rfl) : JI X W tg (.Call (.Name "range" p) [a] [] pos) (gRng1 ga) := by
  obtain ⟨t, p1, q⟩ := ha
  refine ⟨_, pi_range1 hg hm (pa_cons p1 pa_nil hs) hs, fun ρ s σ α H R E S h => q ρ s σ α H _ E S (Post.bind h fun d s1 v α1 H1 l1 S1 R1 h1 => ?_)⟩
  cases d with
  | int j =>
    cases R1
    have h2 : Post X.K (ItRel X.K) W α1 H1 σ (if rngOk j then .ok (itRng 0 j.toNat) s1 else .bad) R := h1
    cases z : rngOk j with
    | false => rw [z] at h2; exact h2.elim
    | true =>
      rw [z, if_pos rfl] at h2
      obtain ⟨b1, b2⟩ := rngOk_of z
      exact ⟨j, rfl, b1, b2, Post.here h2 S1 itRng_ok⟩
  | _ => exact h1.elim
/-! reversed(a list) -/
def itRev (n len : Nat) : IT := fun i s => if i < len then (match seq? s n with
  | some l => (match l[len - 1 - i]? with
    | some d => some (some d)
    | none => none)
  | none => none) else some none
def gRev (a : GE) : FI := fun ρ s => (a ρ s).bind fun x s1 => match x with
  | .ref n => (match seq? s1 n with
    | some l => .ok (itRev n l.length) s1
    | none => .bad)
  | _ => .bad
/-! a text, sign by sign -/
def itTxt (x : Str) : IT := fun i _ => some ((x.cps[i]?).map fun c => .str ⟨#[c]⟩)
def gItTxt (a : GE) : FI := fun ρ s => (a ρ s).bind fun x s1 => match x with
  | .str z => .ok (itTxt z) s1
  | _ => .bad
theorem ji_txt {tg : Expr} (ha : JE X W a ga) : JI X W tg a (gItTxt ga) := by
  obtain ⟨t, p1, q⟩ := ha
  refine ⟨_, pi_str p1, fun ρ s σ α H R E S h => q ρ s σ α H _ E S (Post.bind h fun d s1 v α1 H1 l1 S1 R1 h1 => ?_)⟩
  cases d with
  | str z =>
    cases R1
    refine ⟨z, rfl, Post.here h1 S1 fun i α2 H2 s2 l2 S2 => ?_⟩
    show ItAt X.K α2 H2 s2 (Its z) i (some ((z.cps[i]?).map fun c => D.str ⟨#[c]⟩))
    cases e : z.cps[i]? with
    | none => exact Array.getElem?_eq_none_iff.mp e
    | some c =>
      have hl : i < z.cps.size := by
        obtain ⟨h1, _⟩ := Array.getElem?_eq_some_iff.mp e
        exact h1
      refine ⟨hl, fun x H3 hy => ?_⟩
      obtain ⟨rfl, c', e', rfl⟩ := hy
      rw [e] at e'
      cases e'
      exact ⟨Le.refl, S2, rfl⟩
  | _ => exact h1.elim
end
end PD

/-! Pd5: comprehensions, defs and their calls. -/
namespace PD
open PySem L2
section
variable {X : Cx} {W : WX} {K : PySem.W.Frag} {α α' α1 α2 : List Addr} {H H' H1 H2 : Hp} {s s' s1 s2 : Sto} {ρ ρ' : En} {σ σ' : L2.St}
variable {e a b c o i : Expr} {es rest : List Expr} {ga gb gc go gi : GE} {gl : GA} {ta tb : GT} {pos : Pos} {stm : Stmt} {sts body : List Stmt} {gs gr : GS}

/-! ### comprehensions -/
def wipeD (ρ : En) : List Nat → En
  | [] => ρ
  | v :: vs => (wipeD ρ vs).set v none
theorem wipe_rel (E : ERel K α H ρ σ) : ∀ vs : List Nat, ERel K α H (wipeD ρ vs) (wipe σ vs)
  | [] => E
  | v :: vs => (wipe_rel E vs).unset
theorem wipe_at {σ : L2.St} {i : Nat} : ∀ {vs : List Nat}, i ∈ vs → ∀ y : Option V, wipe (σ.set i y) vs = wipe σ vs
  | [], h, _ => by cases h
  | v :: vs, h, y => by
    show (wipe (σ.set i y) vs).set v none = (wipe σ vs).set v none
    by_cases hi : i ∈ vs
    · rw [wipe_at hi y]
    · have e : i = v := by
        rcases List.mem_cons.mp h with h | h
        · exact h
        · exact absurd h hi
      subst e
      have go : ∀ (vs : List Nat) (σ : L2.St), i ∉ vs → wipe (σ.set i y) vs = (wipe σ vs).set i y := by
        intro vs
        induction vs with
        | nil => intro σ _; rfl
        | cons w ws ih =>
          intro σ hw
          show (wipe (σ.set i y) ws).set w none = ((wipe σ ws).set w none).set i y
          have hne : i ≠ w := fun z => hw (by rw [z]; exact List.mem_cons_self ..)
          rw [ih σ fun z => hw (List.mem_cons_of_mem _ z), List.set_comm _ _ hne]
      rw [go vs σ hi, List.set_set]
theorem wipe_twice {σ : L2.St} : ∀ vs : List Nat, wipe (wipe σ vs) vs = wipe σ vs := by
  have go : ∀ (us vs : List Nat), (∀ u ∈ us, u ∈ vs) → wipe (wipe σ us) vs = wipe σ vs := by
    intro us
    induction us with
    | nil => intro vs _; rfl
    | cons u us ih =>
      intro vs h
      show wipe ((wipe σ us).set u none) vs = wipe σ vs
      rw [wipe_at (h u (List.mem_cons_self ..))]
      exact ih vs fun w hw => h w (List.mem_cons_of_mem _ hw)
  exact fun vs => go vs vs fun _ h => h
/-- targets of a comprehension: one name, or a tuple of names -/
inductive CT where
  | one (i : Nat) | tup (is : List Nat)
def namesT : List Nat → List D → En → En
  | i :: is, d :: ds, ρ => namesT is ds (ρ.set i (some d))
  | _, _, ρ => ρ
def CT.put (t : CT) (d : D) (ρ : En) (s : Sto) : Option En := match t with
  | .one i => some (ρ.set i (some d))
  | .tup is => (match items? s d with
    | some l => if decide (l.length = is.length) then some (namesT is l ρ) else none
    | none => none)
def gNames : List Nat → TGs
  | [] => L2.gNil
  | i :: is => L2.gCons (L2.gName i) (gNames is)
def CT.tg (K : PySem.W.Frag) : CT → TG
  | .one i => L2.gName i
  | .tup is => fun v σ H Q => L2.gTup K is.length (gNames is) v σ H Q ∨ L2.gLst K is.length (gNames is) v σ H Q
def CT.vs : CT → List Nat
  | .one i => [i]
  | .tup is => is
theorem gNames_go {vs : List Nat} : ∀ {is : List Nat} {l : List D} {xs : List V} {ρ : En} {σ : L2.St} {Q : L2.St → Hp → Prop}, (∀ i ∈ is, i ∈ vs) → l.length = is.length → RepL K α H l xs → ERel K α H ρ σ →
    (∀ σ', ERel K α H (namesT is l ρ) σ' → wipe σ' vs = wipe σ vs → Q σ' H) → gNames is xs σ H Q
  | [], [], xs, ρ, σ, Q, _, _, r, E, h => ⟨r, h σ E rfl⟩
  | [], _ :: _, _, _, _, _, _, hl, _, _, _ => by cases hl
  | _ :: _, [], _, _, _, _, _, hl, _, _, _ => by cases hl
  | i :: is, d :: l, xs, ρ, σ, Q, hv, hl, r, E, h => by
    obtain ⟨v, r', e, r1, r2⟩ := r
    refine ⟨v, r', e, gNames_go (fun j hj => hv j (List.mem_cons_of_mem _ hj)) (Nat.succ.inj hl) r2 (E.set r1) fun σ' E' w => h σ' E' ?_⟩
    rw [w, wipe_at (hv i (List.mem_cons_self ..))]
theorem CT.run {t : CT} {vs : List Nat} (hv : ∀ i ∈ t.vs, i ∈ vs) {d : D} {v : V} {Q : L2.St → Hp → Prop} (S : SOk K α H s) (E : ERel K α H ρ σ) (r : Rep K α H d v) {ρ1 : En} (h : t.put d ρ s = some ρ1)
    (q : ∀ σ', ERel K α H ρ1 σ' → wipe σ' vs = wipe σ vs → Q σ' H) : t.tg K v σ H Q := by
  cases t with
  | one i =>
    cases h
    exact q _ (E.set r) (wipe_at (hv i (List.mem_cons_self ..)) _)
  | tup is =>
    have h1 : (match items? s d with
      | some l => if decide (l.length = is.length) then some (namesT is l ρ) else none
      | none => none) = some ρ1 := h
    cases z : items? s d with
    | none => rw [z] at h1; cases h1
    | some l =>
      rw [z] at h1
      have h2 : (if decide (l.length = is.length) then some (namesT is l ρ) else none) = some ρ1 := h1
      cases c : decide (l.length = is.length) with
      | false => rw [c] at h2; cases h2
      | true =>
        rw [c, if_pos rfl] at h2
        cases h2
        have hl := of_decide_eq_true c
        obtain ⟨p, xs, rfl, hs, rl⟩ := items_rep S z r
        have fin := gNames_go (Q := Q) hv hl rl E q
        rcases hs with hs | hs
        · exact .inr ⟨p, xs, rfl, hs, by rw [rl.length]; exact hl, fin⟩
        · exact .inl ⟨p, xs, rfl, hs, by rw [rl.length]; exact hl, fin⟩
/-- the turns: n is the new list's place -/
def lcG (it : IT) (t : CT) (tt : GT) (te : GE) (n : Nat) (ρ : En) : Nat → Nat → Sto → Option Sto
  | 0, _, _ => none
  | m + 1, i, s => match it i s with
    | none => none
    | some none => some s
    | some (some d) => (match t.put d ρ s with
      | none => none
      | some ρ1 => (match tt ρ1 s with
        | .ok true s1 => (match te ρ1 s1 with
          | .ok y s2 => (match lst? s2 n with
            | some acc => if decide (acc.length < line) then lcG it t tt te n ρ m (i + 1) (s2.set n (.lst (acc ++ [y]))) else none
            | none => none)
          | _ => none)
        | .ok false s1 => lcG it t tt te n ρ m (i + 1) s1
        | _ => none))
def gLc (fi : FI) (t : CT) (tt : GT) (te : GE) (vs : List Nat) : GE := fun ρ s => (fi ρ s).bind fun it s1 => match lcG it t tt te s1.length (wipeD ρ vs) lots 0 (s1 ++ [.lst []]) with
  | some s2 => .ok (.ref s1.length) s2
  | none => .bad
abbrev W0 : WX := fun _ _ _ _ => False
/-- a comprehension's block -/
abbrev Blk (X : Cx) (scope : Scope) (P : Cx → Prop) : Prop := ∀ (s : Shared) (H : Hp) (C : Addr) (cl : List (Str × Addr)) (fp : List Addr), P (X.blk s H scope (compEnvC scope cl C X.env) fp)
/-- one reading for every block -/
theorem blk_e {scope : Scope} (h : Blk X scope fun Y => JE Y W0 e ga) : ∃ t, Blk X scope (fun Y => PE Y e t) ∧ RefE X.K W0 t ga :=
  ⟨fun σ H Q => ∀ s H1 C cl fp, Classical.choose (h s H1 C cl fp) σ H Q, fun s H1 C cl fp => ⟨fun pins s' σ H' Q I q => (Classical.choose_spec (h s H1 C cl fp)).1.run pins s' σ H' Q I (q s H1 C cl fp)⟩,
    fun ρ s σ α H Q E S q s1 H1 C cl fp => (Classical.choose_spec (h s1 H1 C cl fp)).2 ρ s σ α H Q E S q⟩
def JTs (X : Cx) (W : WX) (ifs : List Expr) (g : GT) : Prop := ∃ t, PTs X ifs t ∧ RefT X.K W t g
theorem blk_t {scope : Scope} {ifs : List Expr} (h : Blk X scope fun Y => JTs Y W0 ifs ta) : ∃ t, Blk X scope (fun Y => PTs Y ifs t) ∧ RefT X.K W0 t ta :=
  ⟨fun σ H Q => ∀ s H1 C cl fp, Classical.choose (h s H1 C cl fp) σ H Q, fun s H1 C cl fp => ⟨fun pins s' σ H' Q I q => (Classical.choose_spec (h s H1 C cl fp)).1.run pins s' σ H' Q I (q s H1 C cl fp)⟩,
    fun ρ s σ α H Q E S q s1 H1 C cl fp => (Classical.choose_spec (h s1 H1 C cl fp)).2 ρ s σ α H Q E S q⟩
def gYes : GT := fun _ s => .ok true s
theorem jts_nil : JTs X W [] gYes := ⟨_, pts_nil, fun ρ s σ α H Q E S h => Post.here h S rfl⟩
theorem jts_one (h : JT X W c ta) : JTs X W [c] ta := by
  obtain ⟨t, p, q⟩ := h
  exact ⟨t, pts_one p, q⟩
/-- the target of a comprehension -/
def JCT (X : Cx) (tg : Expr) (t : CT) : Prop := PG X tg (t.tg X.K)
theorem jct_one {i : Nat} {x : Str} (hN : X.N.Nodup) (hi : X.N[i]? = some x := by rfl) (hx : Loc X.env.scope x := by first | exact Or.inl rfl | exact Or.inr rfl) (hf : X.fn x = true ∨ X.env.scope.names.lookup x = some .local := by first | exact .inl rfl | exact .inr rfl) : JCT X (.Name x pos) (.one i) := pg_name hN hi hx hf
/-- the raise of a source ahead: a comprehension's source may raise, its turns not -/
theorem ref_lc {wi : TI} {fi : FI} {t : CT} {tt : TT} {te : TE} {vs : List Nat} (hv : ∀ i ∈ t.vs, i ∈ vs) (q1 : ∀ ρ s σ α H R, ERel K α H ρ σ → SOk K α H s → Post K (ItRel K) W α H σ (fi ρ s) R → wi σ H R)
    (q2 : RefT K W0 tt ta) (q3 : RefE K W0 te ga) : RefE K W (tLc wi (t.tg K) tt te vs) (gLc fi t ta ga vs) := fun ρ s σ α H Q E S h => by
  refine q1 ρ s σ α H _ E S (Post.bind h fun it s1 J α1 H1 l1 S1 R1 h1 => ?_)
  have h2 : Post K (Rep K) W α1 H1 σ (match lcG it t ta ga s1.length (wipeD ρ vs) lots 0 (s1 ++ [.lst []]) with
    | some s2 => .ok (.ref s1.length) s2
    | none => .bad) Q := h1
  cases z : lcG it t ta ga s1.length (wipeD ρ vs) lots 0 (s1 ++ [.lst []]) with
  | none => rw [z] at h2; exact h2.elim
  | some s2 =>
    rw [z] at h2
    have h3 : Post K (Rep K) W α1 H1 σ (.ok (.ref s1.length) s2) Q := h2
    intro L hL
    obtain ⟨SL, lL⟩ := S1.alloc (o := .lst []) (u := .lst []) hL fun α' H' l q => ⟨[], q, rfl⟩
    have eL : (α1 ++ [L])[s1.length]? = some L := by
      rw [← S1.len, List.getElem?_append_right (Nat.le_refl _), Nat.sub_self]
      rfl
    refine ⟨fun i m H2 => ∃ s3 α3, Le K (α1 ++ [L]) (upd H1 L (.lst [])) α3 H2 ∧ SOk K α3 H2 s3 ∧ lcG it t ta ga s1.length (wipeD ρ vs) m i s3 = some s2, ⟨lots, _, _, Le.refl, SL, z⟩, ?_⟩
    rintro i m H2 ⟨s3, α3, l3, S3, e3⟩
    cases m with
    | zero => cases e3
    | succ m =>
      have hit := R1 i α3 H2 s3 (lL.trans l3) S3
      have E3 : ERel K α3 H2 (wipeD ρ vs) (wipe σ vs) := wipe_rel (E.mono (l1.trans (lL.trans l3))) vs
      unfold lcG at e3
      cases zi : it i s3 with
      | none => rw [zi] at e3; cases e3
      | some w =>
        rw [zi] at e3 hit
        cases w with
        | none =>
          have e4 : some s3 = some s2 := e3
          cases e4
          exact .inl ⟨hit, h3 _ α3 H2 (lL.trans l3) S3 ⟨L, l3.get eL, rfl⟩⟩
        | some d =>
          obtain ⟨hgo, hy⟩ := hit
          refine .inr ⟨hgo, fun H' => ∃ s3 α3, Le K (α1 ++ [L]) (upd H1 L (.lst [])) α3 H' ∧ SOk K α3 H' s3 ∧ lcG it t ta ga s1.length (wipeD ρ vs) m (i + 1) s3 = some s2, fun H' w => ⟨m, Nat.lt_succ_self m, w⟩, fun x H3 hx => ?_⟩
          obtain ⟨l4, S4, R4⟩ := hy x H3 hx
          cases zt : t.put d (wipeD ρ vs) s3 with
          | none => simp only [zt] at e3; cases e3
          | some ρ1 =>
            simp only [zt] at e3
            refine CT.run hv S4 (E3.mono l4) R4 zt fun σ4 E4 w4 => ⟨w4.trans (by rw [wipe_twice]), ?_⟩
            cases zc : ta ρ1 s3 with
            | bad => simp only [zc] at e3; cases e3
            | err ee s5 => simp only [zc] at e3; cases e3
            | ok bb s5 =>
              refine q2 ρ1 s3 σ4 α3 H3 _ E4 S4 (by
                rw [zc]
                intro b5 α5 H5 l5 S5 R5
                cases R5
                simp only [zc] at e3
                cases bb with
                | false =>
                  show (if false = true then _ else ∃ s3 α3, Le K (α1 ++ [L]) (upd H1 L (.lst [])) α3 H5 ∧ SOk K α3 H5 s3 ∧ lcG it t ta ga s1.length (wipeD ρ vs) m (i + 1) s3 = some s2)
                  rw [if_neg Bool.false_ne_true]
                  exact ⟨s5, α5, (l3.trans l4).trans l5, S5, e3⟩
                | true =>
                  rw [if_pos rfl]
                  cases ze : ga ρ1 s5 with
                  | bad => simp only [ze] at e3; cases e3
                  | err ee s6 => simp only [ze] at e3; cases e3
                  | ok y s6 =>
                    simp only [ze] at e3
                    refine q3 ρ1 s5 σ4 α5 H5 _ (E4.mono l5) S5 (by
                      rw [ze]
                      intro v6 α6 H6 l6 S6 R6
                      cases zl : lst? s6 s1.length with
                      | none => simp only [zl] at e3; cases e3
                      | some acc =>
                        simp only [zl] at e3
                        cases cc : decide (acc.length < line) with
                        | false => simp only [cc] at e3; cases e3
                        | true =>
                          simp only [cc, if_true] at e3
                          have lz := ((l3.trans l4).trans l5).trans l6
                          have e7 := lz.get eL
                          obtain ⟨p, xs, ep, ea, es, hp, rl⟩ := S6.lst zl ⟨L, e7, rfl⟩
                          cases ep
                          refine ⟨xs, hp, ?_, ?_⟩
                          · rw [rl.length]
                            exact Nat.lt_of_lt_of_le (of_decide_eq_true cc) (by decide)
                          · obtain ⟨S7, l7⟩ := S6.write (u := .lst xs) (u' := .lst (xs ++ [v6])) (o' := .lst (acc ++ [y])) es ea hp rfl rfl (fun _ z => by cases z) (fun _ _ z => by cases z) fun H' l z => ⟨_, z, RepL.monoT l (rl.append ⟨v6, [], rfl, R6, rfl⟩)⟩
                            exact ⟨_, α6, lz.trans l7, S7, e3⟩))
theorem je_lc {elt tg iter : Expr} {ifs : List Expr} {scope : Scope} {own : List (Str × Nat)} {fi : FI} {t : CT} (hc : X.calm = true) (hN : X.N.Nodup) (hi : JI X W tg iter fi) (ok : BlkOk X.N X.env.scope scope own) (hv : ∀ i ∈ t.vs, i ∈ own.map (·.2))
    (hg : Blk X scope fun Y => JCT Y tg t) (ht : Blk X scope fun Y => JTs Y W0 ifs ta) (he : Blk X scope fun Y => JE Y W0 elt ga)
    (hs : ∀ x, foldedSetIterable iter X.env x = pure x := by intro _; rfl) : JE X W (.ListComp elt [⟨tg, iter, ifs, 0⟩] scope pos) (gLc fi t ta ga (own.map (·.2))) := by
  obtain ⟨wi, p1, q1⟩ := hi
  obtain ⟨tt, p2, q2⟩ := blk_t ht
  obtain ⟨te, p3, q3⟩ := blk_e he
  exact ⟨_, pe_lc (g := t.tg X.K) hc hN p1 ok (fun s H C cl fp => hg s H C cl fp) p2 p3 hs, ref_lc hv q1 q2 q3⟩
/-! ### a def as a function over data -/
/-- what a call promises -/
def spG (K : PySem.W.Frag) (n : Nat) (m : Fn) : Sp := fun vs H Q E => ∃ ds α s, vs.length = n ∧ RepL K α H ds vs ∧ SOk K α H s ∧ Post K (Rep K) (fun c d _ H' => E c d H') α H [] (m ds s) Q
def startD (n : Nat) (ds : List D) : En := ds.map some ++ List.replicate (n - ds.length) none
/-- a body run: n slots, p parameters -/
def run (n p : Nat) (b : GS) : Fn := fun ds s => if decide (ds.length = p) then (match b (startD n ds) s with
  | .nx _ s' => .ok .non s'
  | .rt d s' => .ok d s'
  | .err e _ s' => .err e s'
  | _ => .bad) else .bad
theorem start_rel {ds : List D} {vs : List V} (r : RepL K α H ds vs) (N : List Str) : ERel K α H (startD N.length ds) (L2.start N vs) := by
  refine ⟨?_, fun i d e => ?_⟩
  · unfold startD L2.start
    rw [List.length_append, List.length_append, List.length_map, List.length_map, List.length_replicate, List.length_replicate, r.length]
  · unfold startD at e
    by_cases h : i < ds.length
    · rw [List.getElem?_append_left (by rw [List.length_map]; exact h), List.getElem?_map] at e
      cases z : ds[i]? with
      | none => rw [z] at e; cases e
      | some d' =>
        rw [z] at e
        cases e
        obtain ⟨v, g1, g2⟩ := r.get z
        refine ⟨v, ?_, g2⟩
        unfold L2.start
        rw [List.getElem?_append_left (by rw [List.length_map, r.length]; exact h), List.getElem?_map, g1]
        rfl
    · rw [List.getElem?_append_right (by rw [List.length_map]; exact Nat.le_of_not_lt h), List.getElem?_replicate] at e
      split at e <;> cases e
end
/-- a def by its name: what stands there is the function m -/
structure Fg (P : Program) (w : World) (K : PySem.W.Frag) (mg : Str → Option Value) (base : Heap) (x : Str) (ps : List Str) (k : Nat) (m : Fn) : Prop where
  ex : ∃ f fd, mg x = some (.ref f) ∧ PySem.W.keepIn K (.ref f) = true ∧ Binds K fd ps [] ∧ FnOk P w K mg base (L2.CX P w) k f fd ps (spG K ps.length m)
  len : ∀ ds s, m ds s ≠ .bad → ds.length = ps.length
theorem run_len {n p : Nat} {b : GS} {ds : List D} {s : Sto} (h : run n p b ds s ≠ .bad) : ds.length = p := by
  unfold run at h
  cases c : decide (ds.length = p) with
  | true => exact of_decide_eq_true c
  | false =>
    rw [c] at h
    exact absurd rfl h
section
variable {P : Program} {w : World} {K : PySem.W.Frag} {mg : Str → Option Value} {base : Heap}
theorem fn_body {x qual : Str} {params : Arguments} {body : List Stmt} {scope : Scope} {dvs : List V} {kws : List (Str × V)} {f : Addr} {fd : FuncData} {N ps : List Str} {k n p : Nat} {gb : GS}
    (F : FunD K x qual params body scope dvs kws f fd) (S : FnScope N ps scope) (hn : N.length = n) (hp : ps.length = p)
    (hb : ∀ (cdv : Value) (A : Around) (outer : List Env) (s : Shared) (H : Hp) (E : XK) (X : Cx), X = cxOf (L2.CX P w) P w K mg base N qual scope f cdv A outer s H E → Room k X.A → Takes X (fun c d _ H => E c d H) → PassesOwn (model X.prog X.w) X.A X.env X.xe →
      JB X (fun c d _ H => E c d H) body gb) : FnOk P w K mg base (L2.CX P w) (k + 1) f fd ps (spG K ps.length (run n p gb)) := by
  refine F.ok S (fun vs H Q E h => ?_) (fun cdv A outer s H vs Q E hr h => ?_)
  · obtain ⟨ds, α, s, h1, _⟩ := h
    exact h1
  · obtain ⟨ds, α, st, h1, h2, h3, h4⟩ := h
    obtain ⟨t, p1, q1⟩ := hb cdv A outer s H E _ rfl hr (takes_of rfl rfl rfl rfl) (passes_of rfl)
    refine ⟨t, p1, q1 (startD n ds) st (L2.start N vs) α H _ (by rw [← hn]; exact start_rel h2 N) h3 ?_⟩
    have h5 : Post K (Rep K) (fun c d _ H' => E c d H') α H [] (if decide (ds.length = p) then (match gb (startD n ds) st with
      | .nx _ s' => .ok .non s'
      | .rt d s' => .ok d s'
      | .err e _ s' => .err e s'
      | _ => .bad) else .bad) Q := h4
    cases c : decide (ds.length = p) with
    | false => rw [c] at h5; exact h5.elim
    | true =>
      rw [c, if_pos rfl] at h5
      cases z : gb (startD n ds) st with
      | nx ρ s' => rw [z] at h5; exact fun σ' α' H' l S' E' => h5 .non α' H' l S' rfl
      | rt d s' => rw [z] at h5; exact h5
      | err e ρ s' => rw [z] at h5; exact fun c dd σ' α' H' l S' E' R => h5 c dd α' H' l S' R
      | bk ρ s' => rw [z] at h5; exact h5.elim
      | ct ρ s' => rw [z] at h5; exact h5.elim
      | bad => rw [z] at h5; exact h5.elim
theorem Fg.of {x : Str} {f : Addr} {fd : FuncData} {ps : List Str} {k n p : Nat} {gb : GS} (hm : mg x = some (.ref f)) (hk : PySem.W.keepIn K (.ref f) = true) (hb : Binds K fd ps []) (hp : ps.length = p)
    (F : FnOk P w K mg base (L2.CX P w) k f fd ps (spG K ps.length (run n p gb))) : Fg P w K mg base x ps k (run n p gb) := ⟨⟨f, fd, hm, hk, hb, F⟩, fun ds s h => (run_len h).trans hp.symm⟩
end
section
variable {X : Cx} {W : WX} {e a b c o i : Expr} {es rest : List Expr} {ga gb gc go gi : GE} {gl : GA} {pos p apos : Pos} {K : PySem.W.Frag} {α : List Addr} {H : Hp} {s : Sto}
def gCall (m : Fn) (g : GA) : GE := fun ρ s => (g ρ s).bind m
theorem je_call {x : Str} {ps : List Str} {k : Nat} {m : Fn} (F : Fg X.prog X.w X.K X.mg X.base x ps k m) (hr : Room k X.A) (tk : Takes X W) (ha : JA X W (e :: es) gl) (hg : Gl X x := by rfl)
    (hdb : (x == ("__debug__" : Str)) = false := by decide) (he : starEach (e :: es) X.env = (false, eval e X.env) :: starEach es X.env := by rfl) (hpl : (backTo pos (starEach es X.env)).any (·.1) = false := by rfl) :
    JE X W (.Call (.Name x p) (e :: es) [] pos) (gCall m gl) := by
  obtain ⟨f, fd, h1, h2, h3, h4⟩ := F.ex
  obtain ⟨t, p1, q1⟩ := ha
  refine ⟨_, pe_callS h4 hr hg h1 h2 h3 (fun σ => passAt tk σ) p1 hdb he hpl, fun ρ s σ α H Q E S h => ?_⟩
  have hb := h
  unfold gCall at h
  cases z : gl ρ s with
  | bad => rw [z] at h; exact h.elim
  | err ee s1 => rw [z] at h; exact q1 ρ s σ α H _ E S (by rw [z]; exact h)
  | ok l s1 =>
    rw [z] at h
    have hlen : l.length = ps.length := F.len l s1 fun zb => by
      have h2 : Post X.K (Rep X.K) W α H σ (m l s1) Q := h
      rw [zb] at h2
      exact h2
    refine q1 ρ s σ α H _ E S (by
      rw [z]
      intro vs α1 H1 l1 S1 R1
      refine ⟨l, α1, s1, by rw [R1.length]; exact hlen, R1, S1, ?_⟩
      have h2 : Post X.K (Rep X.K) W α1 H1 σ (m l s1) Q := Post.mono l1 h
      cases zz : m l s1 with
      | ok d s2 => rw [zz] at h2; exact h2
      | err ee s2 => rw [zz] at h2; exact h2
      | bad => rw [zz] at h2; exact h2)
end
end PD

/-! Pd6: raising, instances, the head's facts, a law's end. -/
namespace PD
open PySem L2
section
variable {X : Cx} {W : WX} {K : PySem.W.Frag} {α α' α1 α2 : List Addr} {H H' H1 H2 : Hp} {s s' s1 s2 : Sto} {ρ ρ' : En} {σ σ' : L2.St}
variable {e a b c o i : Expr} {es rest : List Expr} {ga gb gc go gi : GE} {gl : GA} {ta tb : GT} {pos p apos : Pos} {stm : Stmt} {sts body : List Stmt} {gs gr : GS}
/-! ### a list, a tuple or a text is walked -/
def gItA (a : GE) : FI := fun ρ s => (a ρ s).bind fun x s1 => match x with
  | .str z => .ok (itTxt z) s1
  | x => (match items? s1 x with
    | some _ => .ok (itSeq x) s1
    | none => .bad)
theorem ji_any {tg : Expr} (ha : JE X W a ga) : JI X W tg a (gItA ga) := by
  obtain ⟨t1, p1, q1⟩ := ji_seq (tg := tg) ha
  obtain ⟨t2, p2, q2⟩ := ji_txt (tg := tg) ha
  refine ⟨_, PI.or p1 p2, fun ρ s σ α H R E S h => ?_⟩
  cases z : ga ρ s with
  | bad =>
    unfold gItA at h
    rw [z] at h
    exact h.elim
  | err ee s1 =>
    refine .inl (q1 ρ s σ α H R E S ?_)
    unfold gItA at h
    unfold gIt
    rw [z] at h ⊢
    exact h
  | ok d s1 =>
    cases d with
    | str y =>
      refine .inr (q2 ρ s σ α H R E S ?_)
      unfold gItA at h
      unfold gItTxt
      rw [z] at h ⊢
      exact h
    | _ =>
      refine .inl (q1 ρ s σ α H R E S ?_)
      unfold gItA at h
      unfold gIt
      rw [z] at h ⊢
      exact h
/-! ### comparisons as tests -/
def gTb (a : GE) : GT := fun ρ s => (a ρ s).bind fun x s1 => match x with
  | .bl b => .ok b s1
  | _ => .bad
theorem ref_test {t : TE} (q : RefE K W t ga) : RefT K W (tTest t) (gTb ga) := fun ρ s σ α H Q E S h => q ρ s σ α H _ E S (Post.bind h fun d s1 v α1 H1 l1 S1 R1 h1 => by
  cases d with
  | bl k =>
    cases R1
    exact ⟨k, rfl, Post.here h1 S1 rfl⟩
  | _ => exact h1.elim)
theorem jt_cmp {op : CmpOp} {o : Op2} (ho : JO X (compareOp op) o) (ha : JE X W a ga) (hb : JE X W b gb) (hm : behindInMarks op b = false) : JT X W (.Compare a [op] [b] pos) (gTb (gOp (quiet o) ga gb)) := by
  obtain ⟨r, p, q⟩ := ho
  obtain ⟨ta, pa, qa⟩ := ha
  obtain ⟨tb, pb, qb⟩ := hb
  exact ⟨_, pt_cmpR p pa pb hm, ref_test (ref_op qa qb fun x y d e α H s σ Q S R1 R2 h => q x y d e α H s Q S R1 R2 (Post.still h))⟩
/-! ### raise C("..") -/
structure Xg (K : PySem.W.Frag) (mg : Str → Option Value) (x : Str) : Prop where
  at_ : mg x = some (.ref (He.ga K x))
  ex : PySem.W.excIn K (He.ga K x) He.veBase "ValueError.__new__" = true ∧ PySem.W.keepIn K (.ref (He.ga K x)) = true ∧ PySem.W.subIn K (.ref (He.ga K x)) (.type "BaseException") = some true ∧ PySem.W.typeIn K (.ref (He.ga K x)) = some (.type "type")
def gRaise (x : Str) : GS := fun ρ s => .err ⟨x, none⟩ ρ s
theorem js_raise {x m : Str} {j : Nat} {p2 pos2 : Pos} (h : Xg X.K X.mg x) (tk : Takes X W) (hc : X.calm = true) (hg : Gl X x := by rfl) (hdb : (x == ("__debug__" : Str)) = false := by decide) : JS X W (.Raise (some (.Call (.Name x p) [.Constant (.str m) j p2] [] pos)) none pos2) (gRaise x) :=
  ⟨_, ps_raise hc tk (pmk_own PySem.F.excBase_ValueError h.ex.1 h.at_ h.ex.2.1 (raises_own h.ex.2.2.1 h.ex.2.2.2) hg hdb), fun ρ s σ α H D E S q => q (.ref (He.ga X.K x)) none σ α H Le.refl S E ⟨rfl, trivial⟩⟩
/-! ### instances of own classes -/
def ins? (s : Sto) : D → Option (Str × List (Str × D))
  | .ref n => (match s[n]? with
    | some (.ins c fs) => some (c, fs)
    | _ => none)
  | _ => none
theorem ins_rep {d : D} {c : Str} {fs : List (Str × D)} {v : V} (S : SOk K α H s) (h : ins? s d = some (c, fs)) (r : Rep K α H d v) : ∃ n a dx fv, d = .ref n ∧ v = .ref a ∧ α[n]? = some a ∧ s[n]? = some (.ins c fs) ∧ H a = some (.ins (He.ga K c) dx fv) ∧ RepF K α H fs fv := by
  cases d with
  | ref n =>
    have h' : (match s[n]? with
      | some (.ins c fs) => some (c, fs)
      | _ => none) = some (c, fs) := h
    cases e : s[n]? with
    | none => rw [e] at h'; cases h'
    | some o =>
      rw [e] at h'
      cases o with
      | ins c' fs' =>
        cases h'
        obtain ⟨a, h1, h2⟩ := S.at_ n _ e
        obtain ⟨b, g1, g2⟩ := r
        rw [h1] at g1
        cases g1
        obtain ⟨dx, fv, q1, q2⟩ := h2
        exact ⟨n, _, dx, fv, rfl, g2, h1, e, q1, q2⟩
      | _ => cases h'
  | _ => cases h
def fldD (fs : List (Str × D)) (f : Str) : Option D := valD fs f
theorem lookup_val : ∀ (fv : List (Str × V)) (f : Str), fv.lookup f = valV fv f
  | [], f => rfl
  | (g, v) :: r, f => by
    by_cases e : g = f
    · subst e
      have e0 : (g == g) = true := beq_self_eq_true g
      have e1 : valV ((g, v) :: r) g = some v := valV_pos (p := (g, v)) rfl
      rw [e1, List.lookup_cons, e0]
    · have e2 : (f == g) = false := by
        rw [beq_eq_false_iff_ne]
        exact fun z => e z.symm
      have e1 : valV ((g, v) :: r) f = valV r f := valV_neg (p := (g, v)) e
      rw [e1, ← lookup_val r f, List.lookup_cons, e2]
/-- an attribute -/
structure Ag (K : PySem.W.Frag) (f : Str) (cs : List Str) : Prop where
  ok : ∀ c ∈ cs, Cls K (He.ga K c) ∧ NoAttr K (He.ga K c) f
def gFld (cs : List Str) (f : Str) (o : GE) : GE := fun ρ s => (o ρ s).bind fun x s1 => match ins? s1 x with
  | some (c, fs) => if decide (c ∈ cs) then (match fldD fs f with
    | some d => .ok d s1
    | none => .bad) else .bad
  | none => .bad
end
/-- a method of a class by its name -/
structure Mg (P : Program) (w : World) (K : PySem.W.Frag) (mg : Str → Option Value) (base : Heap) (c m : Str) (ps : List Str) (k : Nat) (fn : Fn) : Prop where
  cls : Cls K (He.ga K c)
  ex : ∃ f fd, Meth K (He.ga K c) m f ∧ Binds K fd ps [] ∧ FnOk P w K mg base (L2.CX P w) k f fd ps (spG K ps.length fn)
  len : ∀ ds s, fn ds s ≠ .bad → ds.length = ps.length
/-- the classes that have a method: each its own function -/
def AllM (P : Program) (w : World) (K : PySem.W.Frag) (mg : Str → Option Value) (base : Heap) (m : Str) (ps : List Str) (k : Nat) : List (Str × Fn) → Prop
  | [] => True
  | q :: r => Mg P w K mg base q.1 m ps k q.2 ∧ AllM P w K mg base m ps k r
section
variable {X : Cx} {W : WX} {K : PySem.W.Frag} {α α' α1 α2 : List Addr} {H H' H1 H2 : Hp} {s s' s1 s2 : Sto} {ρ ρ' : En} {σ σ' : L2.St}
variable {e a b c o i : Expr} {es rest : List Expr} {ga gb gc go gi : GE} {gl : GA} {ta tb : GT} {pos p apos : Pos}
theorem allM_at {P : Program} {w : World} {mg : Str → Option Value} {base : Heap} {m : Str} {ps : List Str} {k : Nat} {c : Str} {fn : Fn} : ∀ {tab : List (Str × Fn)}, AllM P w K mg base m ps k tab → tab.find? (fun q => decide (q.1 = c)) = some (c, fn) → Mg P w K mg base c m ps k fn
  | [], _, h => by cases h
  | (c', f') :: r, A, h => by
    rw [List.find?_cons] at h
    by_cases e : c' = c
    · subst e
      simp at h
      subst h
      exact A.1
    · simp [e] at h
      exact allM_at A.2 (by simpa using h)
def gMeth (m : Str) (tab : List (Str × Fn)) (o : GE) (g : GA) : GE := fun ρ s => (o ρ s).bind fun x s1 => match ins? s1 x with
  | some (c, fs) => (match tab.find? (fun q => decide (q.1 = c)), fldD fs m with
    | some (c', fn), none => if decide (c' = c) then (g ρ s1).bind fun l s2 => fn (x :: l) s2 else .bad
    | _, _ => .bad)
  | none => .bad
theorem PE.ex {β : Type} {t : β → TE} {p : β → Prop} (h : ∀ y, p y → PE X e (t y)) : PE X e (fun σ H Q => ∃ y, p y ∧ t y σ H Q) := ⟨fun pins s σ H Q I q => by
  obtain ⟨y, hy, q⟩ := q
  exact (h y hy).run pins s σ H Q I q⟩
/-- a call that may let out what W takes at the slots σ -/
theorem run_at {k : Nat} {f : Addr} {fd : FuncData} {ps : List Str} {sp : Sp} {dvs : List V} {ds : List Value} {pins : List (Addr × Obj)} {sh : Shared} {Q : VK} {us : List Value} {vs : List V} (F : FnOk X.prog X.w X.K X.mg X.base (L2.CX X.prog X.w) k f fd ps sp) (hr : Room k X.A)
    (hb : Binds X.K fd ps ds) (hd : Vals dvs ds) (tk : Takes X W) (I : Inv X pins σ H sh) (r : Vals vs us) (h : sp (vs ++ dvs) H Q (WE W σ)) : wpAny (model X.prog X.w) X.A (call (.ref f) us) (EP X pins σ Q) X.xe sh := by
  have r2 : Vals (vs ++ dvs) (us ++ ds) := r.append hd
  have hl : (us ++ ds).length = ps.length := r2.length.symm.trans (F.len _ _ _ _ h)
  refine wpAny_call (codeAny_mono (F.run X.A X.stack sh H ⟨us, []⟩ (us ++ ds) (vs ++ dvs) Q (WE W σ) hr I.env0 (hb sh us I.kIn hl) r2 h) fun res sh' hq => ?_)
  match res, hq with
  | .error ee, hq => exact passAt tk σ pins H sh ee sh' I hq
  | .ok (.ret u), hq => exact I.after hq
  | .ok .next, hq => exact hq.elim
  | .ok .brk, hq => exact hq.elim
  | .ok .cont, hq => exact hq.elim
def tMethG (C : Addr) (m : Str) (sp : Sp) (W : WX) (ta : TE) (t : TA) : TE := fun σ H Q => ta σ H fun x H1 => ∃ a dx fs, x = .ref a ∧ H1 a = some (.ins C dx fs) ∧ fs.lookup m = none ∧ t σ H1 fun vs H2 => sp (x :: vs) H2 Q (WE W σ)
/-- how a method's call is told -/
abbrev MCall (X : Cx) (o : Expr) (m : Str) (es : List Expr) (apos pos : Pos) (pl : Sem Bool) : Prop :=
  eval (.Call (.Attribute o m apos) es [] pos) X.env = (do let ov ← eval o X.env; standAt apos.atName; let (f, first) ← holding [ov] (getMethod ov m pl); callWith pos f first (backTo pos (starEach es X.env)) (backToKw pos (keywordEach [] X.env)))
theorem pe_methG {m : Str} {C f : Addr} {fd : FuncData} {ps : List Str} {k : Nat} {sp : Sp} {te : TE} {t : TA} {pl : Sem Bool} (he : PE X o te) (c : Cls X.K C) (hm : Meth X.K C m f) (F : FnOk X.prog X.w X.K X.mg X.base (L2.CX X.prog X.w) k f fd ps sp) (hr : Room k X.A) (hb : Binds X.K fd ps []) (tk : Takes X W)
    (ha : PA X es t) (hst : ∀ e r, es = e :: r → starEach (e :: r) X.env = (false, eval e X.env) :: starEach r X.env ∧ (backTo pos (starEach r X.env)).any (·.1) = false) (h0 : es = [] → t = tNil) (ht : MCall X o m es apos pos pl) : PE X (.Call (.Attribute o m apos) es [] pos) (tMethG C m sp W te t) := by
  refine ⟨fun pins sh σ H Q I q => ?_⟩
  refine PySem.W.methodCall_KW (pl := pl) ?_ ht
  refine thn (he.run pins sh σ H _ I q) fun u sh1 z => ?_
  obtain ⟨x, H1, I1, rx, a, dx, fs, ex, ea, l, q1⟩ := z
  subst ex
  cases rx
  refine getmeth_ok I1 ea c hm l ?_
  cases es with
  | nil =>
    rw [h0 rfl] at q1
    have fin := run_at (us := [.ref a]) (vs := [.ref a]) (dvs := []) (ds := []) F hr hb .nil tk I1 (.cons rfl .nil) (by rw [List.append_nil]; exact q1)
    exact PySem.W.callWith_K0 (first := [.ref a]) I1.kIn hm.kp fin
  | cons e r =>
    obtain ⟨g1, g2⟩ := hst e r rfl
    refine PySem.W.callWith_K (h₀ := X.base) (first := [.ref a]) I.ok.mod.kin hm.kp ?_ g1 g2
    refine thn (ha.run pos pins sh1 σ H1 _ I1 q1) fun us sh2 z2 => ?_
    obtain ⟨vs, H2, I2, r2, q2⟩ := z2
    exact ⟨I2.kIn, run_at (us := .ref a :: us) (vs := .ref a :: vs) (dvs := []) (ds := []) F hr hb .nil tk I2 (.cons rfl r2) (by rw [List.append_nil]; exact q2)⟩
theorem PV.nobad {β γ : Type} {rel : List Addr → Hp → β → γ → Prop} {r : Res β} {Q : γ → Hp → Prop} (h : Post K rel W α H σ r Q) : r ≠ .bad := fun z => by
  rw [z] at h
  exact h
theorem Post.wish {rel : List Addr → Hp → D → V → Prop} {r : Res D} {Q : V → Hp → Prop} (h : Post K rel W α H σ r Q) : Post K rel (fun c d _ H' => W c d σ H') α H [] r Q := by
  cases r with
  | ok d s => exact h
  | err e s => exact h
  | bad => exact h
theorem ref_meth {m : Str} {ps : List Str} {tab : List (Str × Fn)} {te : TE} {t : TA} {P : Program} {w : World} {mg : Str → Option Value} {base : Heap} {k : Nat} (hne : tab ≠ []) (q1 : RefE K W te go) (q2 : RefA K W t gl)
    (hM : ∀ q : Str × Fn, tab.find? (fun z => decide (z.1 = q.1)) = some q → Mg P w K mg base q.1 m ps k q.2) :
    RefE K W (fun σ H Q => ∃ q : Str × Fn, tab.find? (fun z => decide (z.1 = q.1)) = some q ∧ tMethG (He.ga K q.1) m (spG K ps.length q.2) W te t σ H Q) (gMeth m tab go gl) := fun ρ s σ α H Q E S h => by
  unfold gMeth at h
  cases z : go ρ s with
  | bad => rw [z] at h; exact h.elim
  | err ee s1 =>
    rw [z] at h
    cases tab with
    | nil => exact absurd rfl hne
    | cons q0 r => exact ⟨q0, by rw [List.find?_cons]; simp, q1 ρ s σ α H _ E S (by rw [z]; exact h)⟩
  | ok d s1 =>
    rw [z] at h
    have h1 : Post K (Rep K) W α H σ (match ins? s1 d with
      | some (c, fs) => (match tab.find? (fun q => decide (q.1 = c)), fldD fs m with
        | some (c', fn), none => if decide (c' = c) then (gl ρ s1).bind fun l s2 => fn (d :: l) s2 else .bad
        | _, _ => .bad)
      | none => .bad) Q := h
    cases z2 : ins? s1 d with
    | none => rw [z2] at h1; exact h1.elim
    | some cf =>
      obtain ⟨c, fs⟩ := cf
      rw [z2] at h1
      have h2 : Post K (Rep K) W α H σ (match tab.find? (fun q => decide (q.1 = c)), fldD fs m with
        | some (c', fn), none => if decide (c' = c) then (gl ρ s1).bind fun l s2 => fn (d :: l) s2 else .bad
        | _, _ => .bad) Q := h1
      cases z3 : tab.find? (fun q => decide (q.1 = c)) with
      | none => rw [z3] at h2; exact h2.elim
      | some q =>
        obtain ⟨c', fn⟩ := q
        cases z4 : fldD fs m with
        | some _ => rw [z3, z4] at h2; exact h2.elim
        | none =>
          rw [z3, z4] at h2
          have h3 : Post K (Rep K) W α H σ (if decide (c' = c) then (gl ρ s1).bind fun l s2 => fn (d :: l) s2 else .bad) Q := h2
          cases z5 : decide (c' = c) with
          | false => rw [z5] at h3; exact h3.elim
          | true =>
            rw [z5, if_pos rfl] at h3
            have ec := of_decide_eq_true z5
            subst ec
            have hm := hM (c', fn) z3
            refine ⟨(c', fn), z3, q1 ρ s σ α H _ E S (by
              rw [z]
              intro v α1 H1 l1 S1 R1
              obtain ⟨n, a, dx, fv, rfl, rfl, ea, es, hH, rf⟩ := ins_rep S1 z2 R1
              refine ⟨a, dx, fv, rfl, hH, (lookup_val fv m).trans (rf.val.2 z4), ?_⟩
              refine q2 ρ s1 σ α1 H1 _ (E.mono l1) S1 (Post.bind (Post.mono l1 h3) fun l s2 vs α2 H2 l2 S2 R2 h4 => ?_)
              refine ⟨.ref n :: l, α2, s2, ?_, .cons (R1.mono l2) R2, S2, Post.wish h4⟩
              have e1 := hm.len (.ref n :: l) s2 (PV.nobad h4)
              show vs.length + 1 = ps.length
              rw [← e1, R2.length]
              rfl)⟩
theorem je_meth {m : Str} {ps : List Str} {k : Nat} {tab : List (Str × Fn)} {pl : Sem Bool} (A : AllM X.prog X.w X.K X.mg X.base m ps k tab) (hr : Room k X.A) (tk : Takes X W) (ho : JE X W o go) (ha : JA X W (e :: es) gl) (hne : tab ≠ [] := by exact List.cons_ne_nil _ _)
    (h1 : starEach (e :: es) X.env = (false, eval e X.env) :: starEach es X.env := by rfl) (h2 : (backTo pos (starEach es X.env)).any (·.1) = false := by rfl) (ht : MCall X o m (e :: es) apos pos pl := by rfl) : JE X W (.Call (.Attribute o m apos) (e :: es) [] pos) (gMeth m tab go gl) := by
  obtain ⟨te, p1, q1⟩ := ho
  obtain ⟨t, p2, q2⟩ := ha
  refine ⟨_, PE.ex (p := fun q : Str × Fn => tab.find? (fun z => decide (z.1 = q.1)) = some q) (t := fun q => tMethG (He.ga X.K q.1) m (spG X.K ps.length q.2) W te t) fun q hq => ?_, fun ρ s σ α H Q E S h => ?_⟩
  · obtain ⟨f, fd, k1, k2, k3⟩ := (allM_at A hq).ex
    exact pe_methG p1 (allM_at A hq).cls k1 k3 hr k2 tk p2 (fun e' r' z => by cases z; exact ⟨h1, h2⟩) (fun z => by cases z) ht
  · exact ref_meth hne q1 q2 (fun q hq => allM_at A hq) ρ s σ α H Q E S h
end
end PD

/-! Pd7: a law's end over a head by facts. -/
namespace PD
open PySem L2
/-- facts of the top besides: a class made by object's own __init__ -/
inductive EF where
  | oini (c : Str)
  | exis (x : Str)
  | iso (x : Str)
  | kitT (x : Str) (t : String) (b : Bool)
  | kitC (x y : Str) (b : Bool)
  | xfd (x f : Str)
  | oex (c P f g : Str)
  | tup (x : Str) (l : List Str)
/-- an own exception class whose __init__ is its own -/
def oexB (K : PySem.W.Frag) (C : Addr) : Bool := match K.lookup C with
  | some ⟨.type "type", _, .cls cd, sl⟩ => (match cd.mro, sl.toList with
    | .ref C' :: bm, [_, _, _, _, some (.builtin n), _] => C' == C && (n == "ValueError.__new__" && (!cd.hasDel && (cd.hasDict && PySem.HandSPX.refsVE bm)))
    | _, _ => false)
  | _ => false
def veInit : Option PySem.W.CFound → Bool
  | some (.val (.builtin i)) => i == "ValueError.__init__"
  | _ => false
def EF.ok (K : PySem.W.Frag) : EF → Bool
  | .oini c => PySem.W.makesIn K (He.ga K c) && (He.eqO (PySem.W.findIn K (.ref (He.ga K c)) "__init__") (some (some (.builtin "object.__init__"))) && (PySem.W.keepIn K (.ref (He.ga K c)) && decide (PySem.W.mroIn K (He.ga K c) (.type "object") = some true)))
  | .exis x => He.eqO (PySem.W.findIn K (.ref (He.ga K x)) "__getattribute__") (some (some (.builtin "BaseException.__getattribute__"))) && (He.eqO (PySem.W.findIn K (.ref (He.ga K x)) "__getattr__") (some none) && (decide (PySem.W.subIn K (.ref (He.ga K x)) (.type "BaseException") = some true) && (PySem.W.hasDictIn K (He.ga K x) &&
      (He.eqO (PySem.W.findIn K (.ref (He.ga K x)) "__class__") (some (some (.builtin "object.__class__"))) && (He.eqO (PySem.W.specialIn K (.builtin "object.__class__") "__get__") (some (some (.builtin "getset_descriptor.__get__"))) && (decide (PySem.W.takesIn K (.builtin "object.__class__") = some true) && decide (PySem.W.mroIn K (He.ga K x) (.type "object") = some true)))))))
  | .iso x => He.eqO (PySem.W.findIn K (.ref (He.ga K x)) "__class__") (some (some (.builtin "object.__class__"))) && (He.eqO (PySem.W.specialIn K (.builtin "object.__class__") "__get__") (some (some (.builtin "getset_descriptor.__get__"))) && (decide (PySem.W.takesIn K (.builtin "object.__class__") = some true) && decide (PySem.W.mroIn K (He.ga K x) (.type "object") = some true)))
  | .kitT x t b => decide (PySem.W.kitOne K (.ref (He.ga K x)) (.type t) = some b)
  | .kitC x y b => decide (PySem.W.kitOne K (.ref (He.ga K x)) (.ref (He.ga K y)) = some b)
  | .xfd x f => xfB K (He.ga K x) && He.eqO (PySem.W.findIn K (.ref (He.ga K x)) f) (some none)
  | .oex c P f g => oexB K (He.ga K c) && (He.eqO (PySem.W.findIn K (.ref (He.ga K c)) "__setattr__") (some (some (.builtin "object.__setattr__"))) && (decide (PySem.W.subIn K (.ref (He.ga K c)) (.type "BaseException") = some true) && (decide (PySem.W.typeIn K (.ref (He.ga K c)) = some (.type "type")) && (PySem.W.keepIn K (.ref (He.ga K c)) &&
      (He.eqO (PySem.W.findIn K (.ref (He.ga K c)) f) (some none) && (He.eqO (PySem.W.findIn K (.ref (He.ga K c)) g) (some none) && (He.eqO (PySem.W.findIn K (.ref (He.ga K c)) "__init__") (some (some (.ref (He.fAd K (c, some "__init__"))))) && (decide (PySem.W.typeIn K (.ref (He.fAd K (c, some "__init__"))) = some (.type "function")) &&
      (He.eqO (PySem.W.specialIn K (.ref (He.ga K P)) "__getattribute__") (some (some (.builtin "type.__getattribute__"))) && (decide (PySem.W.typeIn K (.ref (He.ga K P)) = some (.type "type")) && (PySem.W.readsIn K (He.ga K P) (.type "type") && veInit (PySem.W.findCls K (.ref (He.ga K P)) (.type "type") "__init__"))))))))))))
  | .tup x l => He.tupB K x (l.map He.Dv.str)
abbrev AlM : Type := He.AlD × Bool
def valM (fn : List He.DefD) : AlM := (He.valD fn, true)
/-- a def at a name or at a class's method -/
abbrev FunP (K : PySem.W.Frag) (at_ : Str × Option Str) (x q : Str) (st : Stmt) (fd : FuncData) : Prop := FunD K x q (defArgs st) (defBody st) (defScope st) [] [] (He.fAd K at_) fd
/-- no raise is left: the promise for a law's end -/
def spL (K : PySem.W.Frag) (m : Fn) : Sp := fun vs H Q _ => spG K 1 m vs H Q fun _ _ _ => False
theorem fn_calm {P : Program} {w : World} {K : PySem.W.Frag} {mg : Str → Option Value} {base : Heap} {k : Nat} {f : Addr} {fd : FuncData} {x : Str} {m : Fn} (F : FnOk P w K mg base (L2.CX P w) k f fd [x] (spG K 1 m)) : FnOk P w K mg base CX0 k f fd [x] (spL K m) := by
  refine ⟨fun vs H Q E h => F.len vs H Q _ h, fun A outer s H args us vs Q E hr e0 b r h => ?_⟩
  refine codeAny_mono (F.run A outer s H args us vs Q (fun _ _ _ => False) hr e0 b r h) fun res s' q => ?_
  match res, q with
  | .ok (.ret u), q => exact q
  | .ok .next, q => exact q
  | .ok .brk, q => exact q
  | .ok .cont, q => exact q
  | .error e, q =>
    obtain ⟨_, _, _, _, _, _, _, _, _, _, _, _, z⟩ := q
    exact z.elim
theorem law_start {K : PySem.W.Frag} {m : Fn} (pure_ : ∀ ns : List Int, ns.length ≤ 63 → ∃ s', m [.ref 0] [.scr (ns.map D.int)] = .ok (.bl true) s') (H : Hp) (a : Addr) (ns : List Int) (hl : ns.length ≤ 63) (hO : Only H) (hS : SqL K H a (ns.map V.int)) :
    spL K m [.ref a] H (fun v _ => v = .bl true) fun _ _ _ => False := by
  obtain ⟨s', e⟩ := pure_ ns hl
  refine ⟨[.ref 0], [a], [.scr (ns.map D.int)], rfl, ⟨.ref a, [], rfl, ⟨a, rfl, rfl⟩, rfl⟩, ⟨rfl, fun n o h => ?_, fun i j oi oj b hij hi hj mi mj => ?_⟩, ?_⟩
  · cases n with
    | zero =>
      have eo : o = .scr (ns.map D.int) := (Option.some.inj h).symm
      subst eo
      refine ⟨a, rfl, ns.map V.int, ?_, RepL.ints.mpr rfl⟩
      rcases hS with (h1 | ⟨ob, h1⟩) | h1
      · rcases hO a with z | ⟨ob, xs, z⟩
        · rw [h1] at z
          cases z
        · rw [h1] at z
          cases z
      · exact .inl ⟨ob, h1⟩
      · exact .inr h1
    | succ n => cases h
  · cases i with
    | zero =>
      have eo : oi = .scr (ns.map D.int) := (Option.some.inj hi).symm
      subst eo
      cases mi
    | succ n => cases hi
  · rw [e]
    exact fun v α' H' l S R => R
/-- what walk_ofE asks -/
theorem law_end {P : Program} {w : World} {K : PySem.W.Frag} {mg : Str → Option Value} {h : Heap} {fa : Addr} {x lx : Str} {st : Stmt} {k : Nat} {m : Fn} {fd : FuncData} (KX : K.In h) (F : FunP K (lx, none) lx lx st fd) (hfa : mg lx = some (.ref fa)) (hgl : mg lx = some (.ref (He.ga K lx)))
    (hb : ∀ (kV doc pm : Value) (an : Option Addr) (cdv ct : Value) (us : List Value), us.length = [x].length → bindArgs (PySem.W.fnOf lx lx (defArgs st) (defBody st) (defScope st) .none kV doc pm an cdv ct) ⟨us, []⟩ = pure ([x].zip us))
    (ok : ∀ base : Heap, K.In base → base.Ns mainGlobals mg → FnOk P w K mg base (L2.CX P w) k (He.ga K lx) fd [x] (spG K 1 m))
    (pure_ : ∀ ns : List Int, ns.length ≤ 63 → ∃ s', m [.ref 0] [.scr (ns.map D.int)] = .ok (.bl true) s') :
    ∃ (K : PySem.W.Frag) (fd : FuncData) (sp : Sp), K.In h ∧ (∀ (s : Shared) (u : Value), BindsTo s fd ⟨[u], []⟩ [(x, u)]) ∧
        (∀ (H : Hp) (a : Addr) (ns : List Int), ns.length ≤ 63 → Only H → SqL K H a (ns.map V.int) → sp [.ref a] H (fun v _ => v = .bl true) fun _ _ _ => False) ∧
        ∀ base : Heap, K.In base → base.Ns mainGlobals mg → FnOk P w K mg base CX0 k fa fd [x] sp := by
  have e := hfa.symm.trans hgl
  cases e
  exact ⟨K, fd, spL K m, KX, fun s v => F.bindsA hb s [v] rfl, law_start pure_, fun base h1 h2 => fn_calm (ok base h1 h2)⟩
end PD

/-! Pdh: the head's facts over a short list of addresses (found by the names that the law uses). -/
namespace PD
open PySem L2
/-- what is seen from an object, one step: a function's code, a class's names, the things in a dict -/
def hRef (o : Obj) : List Addr := match o.data with
  | .func fd => He.refV fd.code ++ He.refV fd.defaults
  | .cls cd => [cd.ns]
  | .dict es _ => es.toList.flatMap fun e => He.refV e.val
  | _ => []
def hStep (g : Addr → Option Obj) (as : List Addr) : List Addr := as.flatMap fun a => match g a with
  | some o => hRef o
  | none => []
/-- numbers worked out one by one -/
def hFr {α : Type} : List Addr → (List Addr → α) → α
  | [], k => k []
  | a :: r, k => HandSHeadRun.frNat a fun a => hFr r fun r => k (a :: r)
theorem hFr_eq {α : Type} : ∀ (l : List Addr) (k : List Addr → α), hFr l k = k l
  | [], _ => rfl
  | a :: r, k => by
    show HandSHeadRun.frNat a (fun a => hFr r fun r => k (a :: r)) = _
    rw [HandSHeadRun.frNat_eq, hFr_eq r]
def hAs (names : List Str) (g : Addr → Option Obj) : List Addr :=
  let l0 := names.map (He.ga (He.frG g [mainGlobals]))
  let l1 := hStep g l0
  let l2 := hStep g l1
  mainGlobals :: (cStatics :: (l0 ++ (l1 ++ (l2 ++ hStep g l2))))
def obsK (fa : List He.Fa) (fn : List He.DefD) (ef : List EF) (K : PySem.W.Frag) : AlM := (He.obsD fa fn K, ef.all fun f => f.ok K)
def obsW (names : List Str) (fa : List He.Fa) (fn : List He.DefD) (ef : List EF) (g : Addr → Option Obj) : AlM :=
  hFr (names.map (He.ga (He.frG g [mainGlobals]))) fun l0 => hFr (hStep g l0) fun l1 => hFr (hStep g l1) fun l2 => hFr (hStep g l2) fun l3 =>
    obsK fa fn ef (He.frG g (mainGlobals :: (cStatics :: (l0 ++ (l1 ++ (l2 ++ l3))))))
theorem obsW_eq' (names : List Str) (fa : List He.Fa) (fn : List He.DefD) (ef : List EF) (g : Addr → Option Obj) : obsW names fa fn ef g = obsK fa fn ef (He.frG g (hAs names g)) := by
  unfold obsW
  rw [hFr_eq, hFr_eq, hFr_eq, hFr_eq]
  rfl
def hookW (names : List Str) (fa : List He.Fa) (fn : List He.DefD) (ef : List EF) : PySem.W.Hook where
  α := AlM
  obs := fun s => obsW names fa fn ef s.heap.get?
  val := fun _ => valM fn
  says := fun _ h => ∃ K : PySem.W.Frag, K.In h ∧ He.SaysD fa fn K ∧ (ef.all fun f => f.ok K) = true
  of := fun _ _ e => ⟨_, He.frG_in, congrArg (fun z : AlM => z.1) ((obsW_eq' names fa fn ef _).symm.trans e), congrArg (fun z : AlM => z.2) ((obsW_eq' names fa fn ef _).symm.trans e)⟩
  keeps := fun _ _ _ ⟨K, hK, c⟩ k => ⟨K, PySem.W.Frag.In.keeps hK k, c⟩
theorem obsW_eq {names : List Str} {fa : List He.Fa} {fn : List He.DefD} {ef : List EF} {g : Addr → Option Obj} {s : Shared} (h : ∀ a, g a = s.heap.get? a) : obsW names fa fn ef g = (hookW names fa fn ef).obs s := by
  have e : g = s.heap.get? := funext h
  subst e
  rfl
end PD

namespace HW
open PySem L2 PD
def top (i : Nat) : Stmt := PySem.Challenge.pw_pastdesk_k18_touched.main.body.getD i (.Pass ⟨0, 0, 0, 0⟩)
def dd_0 : He.DefD := ⟨("_law_cell_at", none), "_law_cell_at", "_law_cell_at", defArgs (top 19), defBody (top 19), defScope (top 19), [], []⟩
def dd_1 : He.DefD := ⟨("_law_many", none), "_law_many", "_law_many", defArgs (top 20), defBody (top 20), defScope (top 20), [], []⟩
def dd_2 : He.DefD := ⟨("_law_time", none), "_law_time", "_law_time", defArgs (top 21), defBody (top 21), defScope (top 21), [], []⟩
def dd_3 : He.DefD := ⟨("_law_two", none), "_law_two", "_law_two", defArgs (top 26), defBody (top 26), defScope (top 26), [], []⟩
def dd_4 : He.DefD := ⟨("least", none), "least", "least", defArgs (top 4), defBody (top 4), defScope (top 4), [], []⟩
def dd_5 : He.DefD := ⟨("knot", none), "knot", "knot", defArgs (top 10), defBody (top 10), defScope (top 10), [], []⟩
def dd_6 : He.DefD := ⟨("leaf", none), "leaf", "leaf", defArgs (top 9), defBody (top 9), defScope (top 9), [], []⟩
def dd_7 : He.DefD := ⟨("holds", none), "holds", "holds", defArgs (top 2), defBody (top 2), defScope (top 2), [], []⟩
def dd_8 : He.DefD := ⟨("middle", none), "middle", "middle", defArgs (top 11), defBody (top 11), defScope (top 11), [], []⟩
def dd_9 : He.DefD := ⟨("put_in", none), "put_in", "put_in", defArgs (top 12), defBody (top 12), defScope (top 12), [], []⟩
def dd_10 : He.DefD := ⟨("_law_grown", none), "_law_grown", "_law_grown", defArgs (top 22), defBody (top 22), defScope (top 22), [], []⟩
def dd_11 : He.DefD := ⟨("_law_alike", none), "_law_alike", "_law_alike", defArgs (top 25), defBody (top 25), defScope (top 25), [], []⟩
def dd_12 : He.DefD := ⟨("within", none), "within", "within", defArgs (top 3), defBody (top 3), defScope (top 3), [], []⟩
def dd_13 : He.DefD := ⟨("inside", none), "inside", "inside", defArgs (top 14), defBody (top 14), defScope (top 14), [], []⟩
def dd_14 : He.DefD := ⟨("touched", none), "touched", "touched", defArgs (top 15), defBody (top 15), defScope (top 15), [], []⟩
def dd_15 : He.DefD := ⟨("_law_knots", none), "_law_knots", "_law_knots", defArgs (top 23), defBody (top 23), defScope (top 23), [], []⟩
def dd_16 : He.DefD := ⟨("_law_due", none), "_law_due", "_law_due", defArgs (top 24), defBody (top 24), defScope (top 24), [], []⟩
def dd_17 : He.DefD := ⟨("law", none), "law", "law", defArgs (top 27), defBody (top 27), defScope (top 27), [], []⟩
def dd_18 : He.DefD := ⟨("Kind", some "joined"), "joined", "Kind.joined", defArgs (inClass (top 17) 4), defBody (inClass (top 17) 4), defScope (inClass (top 17) 4), [], []⟩
def dd_19 : He.DefD := ⟨("Kind", some "lone"), "lone", "Kind.lone", defArgs (inClass (top 17) 2), defBody (inClass (top 17) 2), defScope (inClass (top 17) 2), [], []⟩
def fnl : List He.DefD := [dd_0, dd_1, dd_2, dd_3, dd_4, dd_5, dd_6, dd_7, dd_8, dd_9, dd_10, dd_11, dd_12, dd_13, dd_14, dd_15, dd_16, dd_17, dd_18, dd_19]
def fal : List He.Fa := [.free "bool", .free "isinstance", .free "len", .free "list", .free "range", .free "sorted", .free "tuple", .glo "_law_cell_at", .glo "_law_many", .glo "_law_time", .glo "_law_two", .glo "least", .glo "knot", .glo "leaf", .glo "holds", .glo "middle", .glo "put_in", .glo "_law_grown", .glo "_law_alike", .glo "within", .glo "inside", .glo "touched", .glo "_law_knots", .glo "_law_due", .glo "law", .glo "Taken", .exc "Taken", .cls "Kind", .meth "Kind" "joined", .meth "Kind" "lone", .glo "Kind"]
def efl : List EF := [.oini "Kind"]
def loose : List PySem.Str := (["_wall", "holds", "within", "least", "PastError", "Taken", "leaf", "knot", "middle", "put_in", "inside", "touched", "Kind", "_law_cell_at", "_law_many", "_law_time", "_law_grown", "_law_knots", "_law_due", "_law_alike", "_law_two"] : List PySem.Str)
abbrev R : PySem.W.OpenRow := PySem.W.OpenLaw.row PySem.Challenge.rw_pastdesk_k18_touched
def nms : List PySem.Str := (["_wall", "holds", "within", "least", "PastError", "Taken", "leaf", "knot", "middle", "put_in", "inside", "touched", "Kind", "_law_cell_at", "_law_many", "_law_time", "_law_grown", "_law_knots", "_law_due", "_law_alike", "_law_two", "law"] : List PySem.Str)
abbrev hk : PySem.W.Hook := hookW nms fal fnl efl
def ob (s : PySem.W.SharedT) : AlM := obsW nms fal fnl efl (HandSHeadRun.getT s)
theorem ob_eq (s : PySem.W.SharedT) : ob s = hk.obs s.abs := obsW_eq (HandSHeadRun.getT_eq s)
theorem run_ (w : World) : HandSHeadRun.RunEq R (PySem.W.view R.prog [27]) hk ob 60000 loose w := by
  intro os
  kernel_rfl
end HW

/-! Pd8: classes made. -/
namespace PD
open PySem L2
def gMake0 (c : Str) : GE := fun _ s => newO (.ins c []) s
structure Kg (K : PySem.W.Frag) (mg : Str → Option Value) (c : Str) : Prop where
  glo : mg c = some (.ref (He.ga K c))
  makes : PySem.W.makesIn K (He.ga K c) = true
  ini : PySem.W.findIn K (.ref (He.ga K c)) "__init__" = some (some (.builtin "object.__init__"))
  kp : PySem.W.keepIn K (.ref (He.ga K c)) = true
theorem kg_of {K : PySem.W.Frag} {mg : Str → Option Value} {c : Str} (h : mg c = some (.ref (He.ga K c))) (e : (EF.oini c).ok K = true) : Kg K mg c := by
  unfold EF.ok at e
  obtain ⟨e1, e2⟩ := Bool.and_eq_true_iff.mp e
  obtain ⟨e3, e4⟩ := Bool.and_eq_true_iff.mp e2
  obtain ⟨e5, e6⟩ := Bool.and_eq_true_iff.mp e4
  exact ⟨h, e1, He.eqO_ok e3, e5⟩
section
variable {X : Cx} {W : WX} {K : PySem.W.Frag} {α α' α1 α2 : List Addr} {H H' H1 H2 : Hp} {s s' s1 s2 : Sto} {ρ ρ' : En} {σ σ' : L2.St}
variable {pos p : Pos}
theorem run_make0 {C : Addr} {pins : List (Addr × Obj)} {sh : Shared} {Q : VK} (hm : PySem.W.makesIn X.K C = true) (hi : PySem.W.findIn X.K (.ref C) "__init__" = some (some (.builtin "object.__init__"))) (I : Inv X pins σ H sh)
    (h : ∀ x dx, H x = none → H dx = none → dx ≠ x → Q (.ref x) (upd (upd H dx (.own x)) x (.ins C dx []))) : wpAny (model X.prog X.w) X.A (call (.ref C) []) (EP X pins σ Q) X.xe sh := by
  have hq := h (sh.heap.objs.size + 1) sh.heap.objs.size (I.hok.fresh (Nat.le_succ _)) (I.hok.fresh (Nat.le_refl _)) (Nat.ne_of_lt (Nat.lt_succ_self _))
  have I2 := Inv.made (C := C) I
  have Y := PySem.W.makes_of (M := model X.prog X.w) I.kIn hm
  refine wpAny_call (make_map0 I.kIn hm hi (fun self => PySem.W.Looks.of_pure (PySem.W.oi_bind self)) ?_)
  have e2 : ((sh.heap.push PySem.W.emptyDict).push (PySem.W.instObj C sh.heap.objs.size)).get? (sh.heap.objs.size + 1) = some (PySem.W.instObj C sh.heap.objs.size) := by
    have := Heap.get?_push_size (sh.heap.push PySem.W.emptyDict) (o := PySem.W.instObj C sh.heap.objs.size) rfl
    rwa [Heap.size_push] at this
  have t1 : PySem.W.Looks (model X.prog X.w) ((sh.heap.push PySem.W.emptyDict).push (PySem.W.instObj C sh.heap.objs.size)) (typeOf (.ref (sh.heap.objs.size + 1))) (.ref C) := (PySem.W.Looks.ld e2).andThen .now
  have t2 : PySem.W.Looks (model X.prog X.w) ((sh.heap.push PySem.W.emptyDict).push (PySem.W.instObj C sh.heap.objs.size)) (isInstance (.ref (sh.heap.objs.size + 1)) (.type "object")) true := t1.andThen (Y.top.keeps fun b o e => Heap.get?_push_of_some _ (Heap.get?_push_of_some _ e))
  refine codeAny_call_builtin PySem.W.oi_plain PySem.W.entry_oi (@PySem.W.check_slot (model X.prog X.w) _ _ _ "object.__init__" "object" "__init__" (.ref (sh.heap.objs.size + 1)) [] [] _ PySem.W.oi_kind PySem.W.oi_split t2 (PySem.W.oi_args (.ref (sh.heap.objs.size + 1))) ?_)
  rw [PySem.W.oi_run]
  exact wpAny_pure (And.intro rfl ⟨V.ref (sh.heap.objs.size + 1), _, I2, rfl, hq⟩)
def tMake0 (C : Addr) : TE := fun σ H Q => ∀ x dx, H x = none → H dx = none → dx ≠ x → Q (.ref x) (upd (upd H dx (.own x)) x (.ins C dx []))
theorem je_make0 {c : Str} (M : Kg X.K X.mg c) (hg : Gl X c := by rfl) (hdb : (c == ("__debug__" : Str)) = false := by decide) : JE X W (.Call (.Name c p) [] [] pos) (gMake0 c) := by
  refine ⟨tMake0 (He.ga X.K c), ⟨fun pins sh σ H Q I h => ?_⟩, fun ρ s σ α H Q E S h => ?_⟩
  · refine wpAny_Call_Name_kw (ld_glob I hg M.glo ?_ hdb)
    exact PySem.W.callWith_K0 I.kIn M.kp (run_make0 M.makes M.ini I h)
  · intro x dx hx hdx hne
    have S1 := S.new (o := .own x) hdx
    have hx1 : (upd H dx (.own x)) x = none := by rw [upd_ne (Ne.symm hne)]; exact hx
    obtain ⟨S2, l2⟩ := S1.alloc (u := .ins (He.ga X.K c) dx []) (o := .ins c []) hx1 fun α' H' l e => ⟨dx, [], e, rfl, rfl⟩
    have hh : Post X.K (Rep X.K) W α H σ (.ok (.ref s.length) (s ++ [.ins c []])) Q := h
    refine hh (.ref x) _ _ ((Le.new hdx).trans l2) S2 ⟨x, ?_, rfl⟩
    rw [← S.len, List.getElem?_append_right (Nat.le_refl _), Nat.sub_self]
    rfl
/-! what no law does -/
end
end PD

/-! Pd9: sorted. -/
namespace PD
open PySem L2
def leZ (a b : Int) : Bool := decide (a ≤ b)
def srtI (l : List Int) : List Int := l.mergeSort leZ
theorem leZ_t : ∀ a b c : Int, leZ a b = true → leZ b c = true → leZ a c = true := fun a b c h1 h2 => decide_eq_true (Int.le_trans (of_decide_eq_true h1) (of_decide_eq_true h2))
theorem leZ_tot : ∀ a b : Int, (leZ a b || leZ b a) = true := fun a b => by
  unfold leZ
  rcases Int.le_total a b with h | h <;> simp [h]
theorem srtI_perm (l : List Int) : (srtI l).Perm l := List.mergeSort_perm l leZ
theorem srtI_rise (l : List Int) : (srtI l).Pairwise (· ≤ ·) := (List.pairwise_mergeSort leZ_t leZ_tot l).imp fun h => of_decide_eq_true h
theorem srtI_uniq {l m : List Int} (hp : m.Perm l) (hs : m.Pairwise (· ≤ ·)) : m = srtI l :=
  List.Perm.eq_of_pairwise (fun a b _ _ h1 h2 => Int.le_antisymm h1 h2) hs (srtI_rise l) (hp.trans (srtI_perm l).symm)
/-! texts -/
theorem ltC_anti : ∀ a b : List Nat, PySem.Spec.ltCps a b = false → PySem.Spec.ltCps b a = false → a = b
  | [], [], _, _ => rfl
  | [], _ :: _, h, _ => by cases h
  | _ :: _, [], _, h => by cases h
  | a :: r, b :: t, h1, h2 => by
    rw [PySem.Spec.ltCps] at h1 h2
    simp at h1 h2
    have e : a = b := by omega
    subst e
    rw [ltC_anti r t (by simpa using h1) (by simpa using h2)]
theorem ltC_trans : ∀ a b c : List Nat, PySem.Spec.ltCps b a = false → PySem.Spec.ltCps c b = false → PySem.Spec.ltCps c a = false
  | [], _, [], _, _ => rfl
  | [], [], _ :: _, _, h => h
  | [], _ :: _, c :: t, h1, h2 => by
    cases h : PySem.Spec.ltCps (c :: t) [] with
    | false => rfl
    | true => cases h
  | _ :: _, [], _, h1, _ => by cases h1
  | _ :: _, _ :: _, [], _, h2 => by cases h2
  | a :: r, b :: t, c :: u, h1, h2 => by
    rw [PySem.Spec.ltCps] at h1 h2 ⊢
    simp at h1 h2 ⊢
    refine ⟨by omega, fun e => ?_⟩
    subst e
    have e : b = c := by omega
    subst e
    have := ltC_trans r t u (by simpa using h1) (by simpa using h2)
    simpa using this
theorem ltC_tot : ∀ a b : List Nat, PySem.Spec.ltCps a b = true → PySem.Spec.ltCps b a = false
  | [], [], h => by cases h
  | [], _ :: _, _ => rfl
  | _ :: _, [], h => by cases h
  | a :: r, b :: t, h => by
    rw [PySem.Spec.ltCps] at h ⊢
    simp at h ⊢
    refine ⟨by omega, fun e => ?_⟩
    subst e
    have := ltC_tot r t (by simpa using h)
    simpa using this
def leT (a b : Str) : Bool := !PySem.Spec.ltCps b.cps.toList a.cps.toList
def srtT (l : List Str) : List Str := l.mergeSort leT
theorem leT_t : ∀ a b c : Str, leT a b = true → leT b c = true → leT a c = true := fun a b c h1 h2 => by
  unfold leT at *
  simp at h1 h2 ⊢
  exact ltC_trans _ _ _ h1 h2
theorem leT_tot : ∀ a b : Str, (leT a b || leT b a) = true := fun a b => by
  unfold leT
  cases h : PySem.Spec.ltCps b.cps.toList a.cps.toList with
  | false => rfl
  | true => simp [ltC_tot _ _ h]
theorem leT_anti : ∀ a b : Str, leT a b = true → leT b a = true → a = b := fun a b h1 h2 => by
  unfold leT at *
  simp at h1 h2
  have := ltC_anti _ _ h2 h1
  cases a
  cases b
  simp at this
  rw [this]
theorem srtT_perm (l : List Str) : (srtT l).Perm l := List.mergeSort_perm l leT
theorem srtT_rise (l : List Str) : (srtT l).Pairwise (fun a b => leT a b = true) := List.pairwise_mergeSort leT_t leT_tot l
theorem rising_pw : ∀ (p : Str) (l : List Str), PyProof.Rows.risingS p l = true → (p :: l).Pairwise (fun a b => leT a b = true)
  | p, [], _ => by simp
  | p, x :: r, h => by
    rw [PyProof.Rows.risingS] at h
    obtain ⟨h1, h2⟩ := Bool.and_eq_true_iff.mp h
    have ih := rising_pw x r h2
    refine List.pairwise_cons.mpr ⟨fun y hy => ?_, ih⟩
    have hx : leT p x = true := h1
    rcases List.mem_cons.mp hy with rfl | hy
    · exact hx
    · exact leT_t _ _ _ hx ((List.pairwise_cons.mp ih).1 y hy)
theorem srtT_uniq {l m : List Str} (hp : m.Perm l) (hs : PyProof.Rows.sortedS m = true) : m = srtT l := by
  have h : m.Pairwise (fun a b => leT a b = true) := by
    cases m with
    | nil => exact List.Pairwise.nil
    | cons x r => exact rising_pw x r hs
  exact List.Perm.eq_of_pairwise (fun a b _ _ h1 h2 => leT_anti a b h1 h2) h (srtT_rise l) (hp.trans (srtT_perm l).symm)
/-! the kinds of rows -/
def ints? : List D → Option (List Int)
  | [] => some []
  | .int i :: r => (ints? r).map (i :: ·)
  | _ :: _ => none
theorem ints_of : ∀ {l : List D} {ns : List Int}, ints? l = some ns → l = ns.map D.int
  | [], ns, h => by cases h; rfl
  | .int i :: r, ns, h => by
    unfold ints? at h
    cases e : ints? r with
    | none => rw [e] at h; cases h
    | some m =>
      rw [e] at h
      cases h
      rw [ints_of e]
      rfl
  | .non :: _, _, h => by cases h
  | .bl _ :: _, _, h => by cases h
  | .str _ :: _, _, h => by cases h
  | .tup _ :: _, _, h => by cases h
  | .ref _ :: _, _, h => by cases h
  | .hot _ _ :: _, _, h => by cases h
def txts? : List D → Option (List Str)
  | [] => some []
  | .str i :: r => (txts? r).map (i :: ·)
  | _ :: _ => none
theorem txts_of : ∀ {l : List D} {ns : List Str}, txts? l = some ns → l = ns.map D.str
  | [], ns, h => by cases h; rfl
  | .str i :: r, ns, h => by
    unfold txts? at h
    cases e : txts? r with
    | none => rw [e] at h; cases h
    | some m =>
      rw [e] at h
      cases h
      rw [txts_of e]
      rfl
  | .non :: _, _, h => by cases h
  | .bl _ :: _, _, h => by cases h
  | .int _ :: _, _, h => by cases h
  | .tup _ :: _, _, h => by cases h
  | .ref _ :: _, _, h => by cases h
  | .hot _ _ :: _, _, h => by cases h
def sortI : OpC := fun ds s => match ds with
  | [.ref n] => (match (seq? s n).bind ints? with
    | some ns => newO (.lst ((srtI ns).map D.int)) s
    | none => .bad)
  | _ => .bad
def sortT : OpC := fun ds s => match ds with
  | [.ref n] => (match (seq? s n).bind txts? with
    | some ns => if decide (ns.length < 64) then newO (.lst ((srtT ns).map D.str)) s else .bad
    | none => .bad)
  | _ => .bad
section
variable {X : Cx} {W : WX} {K : PySem.W.Frag} {α α' α1 α2 : List Addr} {H H' H1 H2 : Hp} {s s' s1 s2 : Sto} {ρ ρ' : En} {σ σ' : L2.St}
theorem jc_sortI : JC X (.builtin "sorted") sortI := ⟨_, cr_sortedI, fun xs ds α H s Q S R h => by
  unfold sortI at h
  split at h
  · next n =>
    cases e : (seq? s n).bind ints? with
    | none => rw [e] at h; exact h.elim
    | some ns =>
      rw [e] at h
      have h' : PV X.K (Rep X.K) α H (newO (.lst ((srtI ns).map D.int)) s) Q := h
      cases e2 : seq? s n with
      | none => rw [e2] at e; cases e
      | some l =>
        rw [e2] at e
        have el := ints_of (show ints? l = some ns from e)
        subst el
        obtain ⟨v, rfl, r1⟩ := rep1 R
        obtain ⟨a, vs, rfl, hs, rl⟩ := S.seq e2 r1
        rw [RepL.ints] at rl
        subst rl
        refine ⟨a, ns, rfl, hs, fun ns' p h1 h2 hp => ?_⟩
        rw [srtI_uniq h1 h2]
        exact new_lst S hp (RepL.ints.mpr rfl) h'
  · exact h.elim⟩
theorem jc_sortT : JC X (.builtin "sorted") sortT := ⟨_, cr_sortedS, fun xs ds α H s Q S R h => by
  unfold sortT at h
  split at h
  · next n =>
    cases e : (seq? s n).bind txts? with
    | none => rw [e] at h; exact h.elim
    | some ns =>
      rw [e] at h
      have h0 : PV X.K (Rep X.K) α H (if decide (ns.length < 64) then newO (.lst ((srtT ns).map D.str)) s else .bad) Q := h
      cases c : decide (ns.length < 64) with
      | false => rw [c] at h0; exact h0.elim
      | true =>
        rw [c, if_pos rfl] at h0
        cases e2 : seq? s n with
        | none => rw [e2] at e; cases e
        | some l =>
          rw [e2] at e
          have el := txts_of (show txts? l = some ns from e)
          subst el
          obtain ⟨v, rfl, r1⟩ := rep1 R
          obtain ⟨a, vs, rfl, hs, rl⟩ := S.seq e2 r1
          rw [RepL.strs] at rl
          subst rl
          refine ⟨a, ns, rfl, hs, of_decide_eq_true c, fun ns' p h1 h2 hp => ?_⟩
          rw [srtT_uniq h1 h2]
          exact new_lst S hp (RepL.strs.mpr rfl) h0
  · exact h.elim⟩
end
/-! pairs of whole numbers -/
def pairD (p : Int × Int) : D := .tup [.int p.1, .int p.2]
def leP (a b : Int × Int) : Bool := decide (a.1 < b.1 ∨ (a.1 = b.1 ∧ a.2 ≤ b.2))
def srtP (l : List (Int × Int)) : List (Int × Int) := l.mergeSort leP
theorem leP_t : ∀ a b c : Int × Int, leP a b = true → leP b c = true → leP a c = true := fun a b c h1 h2 => by
  unfold leP at *
  simp only [decide_eq_true_eq] at *
  omega
theorem leP_tot : ∀ a b : Int × Int, (leP a b || leP b a) = true := fun a b => by
  unfold leP
  simp only [Bool.or_eq_true, decide_eq_true_eq]
  omega
theorem leP_anti : ∀ a b : Int × Int, leP a b = true → leP b a = true → a = b := fun a b h1 h2 => by
  unfold leP at *
  simp only [decide_eq_true_eq] at *
  exact Prod.ext (by omega) (by omega)
theorem srtP_perm (l : List (Int × Int)) : (srtP l).Perm l := List.mergeSort_perm l leP
theorem srtP_rise (l : List (Int × Int)) : (srtP l).Pairwise (fun a b => leP a b = true) := List.pairwise_mergeSort leP_t leP_tot l
theorem srtP_uniq {l m : List (Int × Int)} (hp : m.Perm l) (hs : m.Pairwise (fun a b => leP a b = true)) : m = srtP l :=
  List.Perm.eq_of_pairwise (fun a b _ _ h1 h2 => leP_anti a b h1 h2) hs (srtP_rise l) (hp.trans (srtP_perm l).symm)
def pairs? : List D → Option (List (Int × Int))
  | [] => some []
  | .tup [.int i, .int j] :: r => (pairs? r).map ((i, j) :: ·)
  | _ :: _ => none
theorem pairs_of : ∀ {l : List D} {ps : List (Int × Int)}, pairs? l = some ps → l = ps.map pairD := by
  intro l
  induction l with
  | nil =>
    intro ps h
    cases h
    rfl
  | cons d r ih =>
    intro ps h
    unfold pairs? at h
    split at h
    · next e => cases e
    · next i j r' e =>
      cases e
      cases e2 : pairs? r with
      | none => rw [e2] at h; cases h
      | some m =>
        rw [e2] at h
        cases h
        rw [ih e2]
        rfl
    · cases h
/-- what pair stands at an address -/
def kHeap (h : Heap) (u : Value) : Int × Int := match u with
  | .ref t => (match h.get? t with
    | some o => (match o.data with
      | .seq its _ => (match its.toList with
        | [.int i _, .int j _] => (i, j)
        | _ => (0, 0))
      | _ => (0, 0))
    | none => (0, 0))
  | _ => (0, 0)
theorem kHeap_of {h : Heap} {v : Value} {x y : Int} (p : Srt.IsPair h v x y) : kHeap h v = (x, y) := by
  obtain ⟨a, o, t, u, n, rfl, ho, hc, hd⟩ := p
  unfold kHeap
  simp only [ho, hd]
def sortP : OpC := fun ds s => match ds with
  | [.ref n] => (match (seq? s n).bind pairs? with
    | some ps => newO (.lst ((srtP ps).map pairD)) s
    | none => .bad)
  | _ => .bad
section
variable {X : Cx} {W : WX} {K : PySem.W.Frag} {α α' α1 α2 : List Addr} {H H' H1 H2 : Hp} {s s' s1 s2 : Sto} {σ σ' : L2.St}
theorem pairs_at {pins : List (Addr × Obj)} {sh : Shared} (I : Inv X pins σ H sh) : ∀ {ps : List (Int × Int)} {xs : List V} {its : List Value}, RepL X.K α H (ps.map pairD) xs → Vals xs its →
    ps = its.map (kHeap sh.heap) ∧ ∀ v ∈ its, Rep X.K α H (pairD (kHeap sh.heap v)) (backV v) ∧ Srt.IsPair sh.heap v (kHeap sh.heap v).1 (kHeap sh.heap v).2 ∧ ∃ t, v = Value.ref t
  | [], xs, its, r, rv => by
    cases (show xs = [] from r)
    cases rv
    exact ⟨rfl, fun v hv => nomatch hv⟩
  | p :: ps, xs, its, r, rv => by
    obtain ⟨x, r', rfl, r1, r2⟩ := r
    cases rv with
    | cons q1 q2 =>
      obtain ⟨e, ih⟩ := pairs_at I (ps := ps) r2 q2
      have r1' := r1
      obtain ⟨t, vs, rfl, hT, rl⟩ := r1
      cases q1
      have ev : vs = [.int p.1, .int p.2] := by
        obtain ⟨v1, w1, rfl, z1, z2⟩ := rl
        obtain ⟨v2, w2, rfl, z3, z4⟩ := z2
        cases z1
        cases z3
        cases (show w2 = [] from z4)
        rfl
      subst ev
      obtain ⟨ts, rt, ⟨o, ho, hc, n, hd⟩, _⟩ := I.tuple hT
      obtain ⟨u1, u2, rfl, ri, rj⟩ := vals2 rt
      obtain ⟨t1, rfl⟩ := ri
      obtain ⟨t2, rfl⟩ := rj
      have ip : Srt.IsPair sh.heap (.ref t) p.1 p.2 := ⟨t, o, t1, t2, n, rfl, ho, hc, hd⟩
      have ek := kHeap_of ip
      refine ⟨by rw [List.map_cons, ← e, ek], fun v hv => ?_⟩
      rcases List.mem_cons.mp hv with rfl | hv
      · rw [ek]
        exact ⟨r1', ip, t, rfl⟩
      · exact ih v hv
theorem rep_pairs {h : Heap} : ∀ {its : List Value}, (∀ v ∈ its, Rep K α H (pairD (kHeap h v)) (backV v)) → RepL K α H ((its.map (kHeap h)).map pairD) (its.map backV)
  | [], _ => rfl
  | v :: r, q => ⟨_, _, rfl, q v (List.mem_cons_self ..), rep_pairs fun u hu => q u (List.mem_cons_of_mem _ hu)⟩
def rSrtD (K : PySem.W.Frag) : List V → Hp → VK → Prop := fun vs H Q => ∃ (a : Addr) (xs : List V) (α : List Addr) (ps : List (Int × Int)), vs = [V.ref a] ∧ SqL K H a xs ∧ RepL K α H (ps.map pairD) xs ∧
  ∀ ys p, RepL K α H ((srtP ps).map pairD) ys → H p = none → Q (.ref p) (upd H p (.lst ys))
theorem cr_srtD : CallR X (.builtin "sorted") (rSrtD X.K) := by
  intro pins sh σ H vs us Q I r h
  obtain ⟨a, xs, α, ps, rfl, hs, hx, q⟩ := h
  obtain ⟨its, rv, hl, hz⟩ := I.list hs
  obtain ⟨u, rfl, ru⟩ := vals1 r
  obtain rfl : u = Value.ref a := ru
  obtain ⟨e1, e2⟩ := pairs_at I hx rv
  refine SrtO.sorted_pairsO (k := kHeap sh.heap) hl.isList (by rw [← rv.length]; exact hz) (fun v hv => (e2 v hv).2.1) fun h' d out h1 h2 kp hd hn => ?_
  have g1 : ∀ v ∈ out, v ∈ its := fun v hv => h2.perm.mem_iff.mp hv
  have g2 : (out.map (kHeap sh.heap)) = srtP ps := by
    refine srtP_uniq (by rw [e1]; exact h2.perm.map _) (List.pairwise_map.mpr (h1.imp fun {x y} z => ?_))
    have z' := SrtO.lexB_no.mp z
    unfold leP
    rw [decide_eq_true_eq]
    omega
  have g3 : RepL X.K α H ((srtP ps).map pairD) (out.map backV) := by
    rw [← g2]
    exact rep_pairs fun v hv => (e2 v (g1 v hv)).1
  obtain ⟨n, hn⟩ := hn
  refine ⟨.ref d, upd H d (.lst (out.map backV)), I.laid (t' := sh.toks) kp hd ⟨?_, out, n, vals_back (fun v hv => (e2 v (g1 v hv)).2.2), hn⟩, rfl, q _ d g3 (I.hok.fresh hd)⟩
  rw [List.length_map, h2.len, ← rv.length]
  exact hz
theorem jc_sortP : JC X (.builtin "sorted") sortP := ⟨_, cr_srtD, fun xs ds α H s Q S R h => by
  unfold sortP at h
  split at h
  · next n =>
    cases e : (seq? s n).bind pairs? with
    | none => rw [e] at h; exact h.elim
    | some ps =>
      rw [e] at h
      have h' : PV X.K (Rep X.K) α H (newO (.lst ((srtP ps).map pairD)) s) Q := h
      cases e2 : seq? s n with
      | none => rw [e2] at e; cases e
      | some l =>
        rw [e2] at e
        have el := pairs_of (show pairs? l = some ps from e)
        subst el
        obtain ⟨v, rfl, r1⟩ := rep1 R
        obtain ⟨a, vs, rfl, hs, rl⟩ := S.seq e2 r1
        exact ⟨a, vs, α, ps, rfl, hs, rl, fun ys p h1 hp => new_lst S hp h1 h'⟩
  · exact h.elim⟩

/-! sorted(d), any number of keys -/
section
open PySem.Spec PyProof.Rows
variable {X : Cx}
theorem keys_ints {us : List Value} {vs : List (Key × Value)} {ks : List Int} (hkeys : vs.map (·.1) = ks.map Sum.inl) (hn : us.length = ks.length)
    (hu : ∀ (j : Nat) (v : Value), us[j]? = some v → ∃ (k : Key) (y : Value), vs[j]? = some (k, y) ∧ keyIs k v = true) : IntsAre us ks := by
  refine ints_each hn fun j v e => ?_
  obtain ⟨k, y, g1, g2⟩ := hu j v e
  have g3 : (vs.map (·.1))[j]? = some k := by
    rw [List.getElem?_map, g1]
    rfl
  rw [hkeys, List.getElem?_map] at g3
  cases g4 : ks[j]? with
  | none =>
    rw [g4] at g3
    cases g3
  | some w =>
    rw [g4] at g3
    cases Option.some.inj g3
    rcases keyIs_shape g2 with ⟨i, t, q1, q2⟩ | ⟨z, t, q1, q2⟩
    · cases q1
      exact ⟨w, t, rfl, q2⟩
    · cases q1
theorem srtd_dict (hcalm : X.calm = true) : CallR X (.builtin "sorted") (fun xs H Q => ∃ (a : Addr) (kvs : List (Key × V)) (ks : List Int), xs = [.ref a] ∧ Rd H a (.dK kvs) ∧ kvs.map (·.1) = ks.map Sum.inl ∧
    ∀ (ys : List Int) (p : Addr), ys.Perm ks → ys.Pairwise (· ≤ ·) → H p = none → Q (.ref p) (upd H p (.lst (ys.map V.int)))) := by
  rintro pins s σ H xs us Q I r ⟨a, kvs, ks, rfl, hd, hks, q⟩
  obtain ⟨u, rfl, rx⟩ := vals1 r
  cases rx
  obtain ⟨z, lo, vs, rel, dd⟩ := dk_rd I.hok hd
  obtain ⟨ep, hat⟩ := dd.dictAt
  have hkeys := rel.keys.symm.trans hks
  have hl : vs.length = ks.length := by
    have e := congrArg List.length hkeys
    simpa using e
  have hv : vs.length ≤ sizeLine := by
    rw [← rel.length]
    exact z
  refine Calls.call_function_entry PyProof.Rows.kind_sorted PyProof.Rows.plain_sorted PyProof.Rows.entry_sorted (PyProof.Rows.args_sorted1 _) ?_
  unfold Builtin.«sorted»
  refine wpAny_bind (m := checkCount "sorted" 1 1 _) (wpAny_pure ?_)
  refine wpAny_bind (PySem.W.kdu_collect (A := X.A.in1) (PySem.W.kdl_dict (knd := mixKind X.prog X.w) (kvs := vs) (ep := ep) lo) (I.ok.hd hcalm) hat hv fun h' tk acc hk hacc => ?_)
  have hn : acc.toList.length = ks.length := by
    rw [Array.length_toList, hacc.1, hl]
  have hS : IntsAre acc.toList ks := keys_ints hkeys hn fun j v e => hacc.2 j v (by
    rw [← Array.getElem?_toList]
    exact e)
  have hz : acc.toList.length ≤ sizeLine := by
    rw [hn, ← hl]
    exact hv
  have J : Inv X pins σ H { s with heap := h', toks := tk } := I.kept hk
  refine wpAny_bind (wpAny_newList ?_ hz)
  have ho : (h'.push (seqObj "list" acc.toList.toArray 0)).get? h'.objs.size = some (seqObj "list" acc.toList.toArray 0) := Heap.get?_push_size _ rfl
  show wpAny _ _ _ _ _ { s with heap := h'.push (seqObj "list" acc.toList.toArray 0), toks := tk }
  refine wpAny_bind (wpAny_holding (wpAny_call_entry PyProof.Rows.slot_list_sort ⟨_, ho, rfl⟩ PyProof.Rows.entry_list_sort
    (SrtO.list_sort_ord (s := { s with heap := h'.push (seqObj "list" acc.toList.toArray 0), toks := tk }) SrtO.swo_int ho hz (fun g => SrtO.ints_sortable hS g) fun out g1 g2 => ⟨_, rfl, ?_⟩) (PyProof.Rows.args_list_sort _)))
  obtain ⟨k1, k2, k3⟩ := SrtO.ints_out hS g1 g2
  obtain ⟨e', he'⟩ := PyProof.Rows.sortedHeap_at (vs := acc.toList) (out := out.toArray) ho
  have hm : ((out.map SrtO.iv).map V.int).length ≤ sizeLine := by
    rw [List.length_map, k2.length_eq, ← hn]
    exact hz
  refine wpAny_pure ⟨_, rfl, .ref h'.objs.size, upd H h'.objs.size (.lst ((out.map SrtO.iv).map V.int)), J.laid (t' := tk) (fun b u e => ?_) (Nat.le_refl _)
    (show ObjOk X.prog X.w _ _ _ (.lst ((out.map SrtO.iv).map V.int)) from ⟨hm, out, e', vals_of_ints k1, he'⟩), rfl, q _ _ k2 k3 (J.hok.fresh (Nat.le_refl _))⟩
  have hb : b < h'.objs.size := Heap.lt_size e
  rw [PyProof.Rows.sortedHeap_old (Nat.ne_of_lt hb) (by
    rw [size_push']
    exact Nat.lt_succ_of_lt hb)]
  exact Heap.get?_push_of_some _ e
end
/-! the keys of a dict -/
def sortDI : OpC := fun ds s => match ds with
  | [.ref n] => (match dk? s n with
    | some kvs => (match ints? (kvs.map fun p => match p.1 with | .inl i => D.int i | .inr z => D.str z) with
      | some ns => newO (.lst ((srtI ns).map D.int)) s
      | none => .bad)
    | none => .bad)
  | _ => .bad
def sortDT : OpC := fun ds s => match ds with
  | [.ref n] => (match dk? s n with
    | some kvs => (match txts? (kvs.map fun p => match p.1 with | .inl i => D.int i | .inr z => D.str z) with
      | some ns => if decide (ns.length < 64) then newO (.lst ((srtT ns).map D.str)) s else .bad
      | none => .bad)
    | none => .bad)
  | _ => .bad
theorem keysI {kvs : List (Key × D)} : ∀ {ns : List Int}, (kvs.map fun p => match p.1 with | .inl i => D.int i | .inr z => D.str z) = ns.map D.int → kvs.map (·.1) = ns.map Sum.inl := by
  induction kvs with
  | nil =>
    intro ns h
    cases ns with
    | nil => rfl
    | cons a b => cases h
  | cons p r ih =>
    intro ns h
    cases ns with
    | nil => cases h
    | cons a b =>
      rw [List.map_cons, List.map_cons] at h
      obtain ⟨h1, h2⟩ := List.cons.inj h
      rw [List.map_cons, List.map_cons, ih h2]
      obtain ⟨k, d⟩ := p
      cases k with
      | inl i => cases h1; rfl
      | inr z => cases h1
theorem keysT {kvs : List (Key × D)} : ∀ {ns : List Str}, (kvs.map fun p => match p.1 with | .inl i => D.int i | .inr z => D.str z) = ns.map D.str → kvs.map (·.1) = ns.map Sum.inr := by
  induction kvs with
  | nil =>
    intro ns h
    cases ns with
    | nil => rfl
    | cons a b => cases h
  | cons p r ih =>
    intro ns h
    cases ns with
    | nil => cases h
    | cons a b =>
      rw [List.map_cons, List.map_cons] at h
      obtain ⟨h1, h2⟩ := List.cons.inj h
      rw [List.map_cons, List.map_cons, ih h2]
      obtain ⟨k, d⟩ := p
      cases k with
      | inl i => cases h1
      | inr z => cases h1; rfl
theorem jc_sortDI (hc : X.calm = true) : JC X (.builtin "sorted") sortDI := ⟨_, srtd_dict hc, fun xs ds α H s Q S R h => by
  unfold sortDI at h
  split at h
  · next n =>
    split at h
    · next kvs e =>
      split at h
      · next ns e2 =>
        obtain ⟨v, rfl, r1⟩ := rep1 R
        obtain ⟨a, kv, rfl, _, _, hH, rf⟩ := S.dk e r1
        refine ⟨a, kv, ns, rfl, hH, ?_, fun ys p h1 h2 hp => ?_⟩
        · rw [rf.1]
          exact keysI (ints_of e2)
        · rw [srtI_uniq h1 h2]
          exact new_lst S hp (RepL.ints.mpr rfl) h
      · exact h.elim
    · exact h.elim
  · exact h.elim⟩
theorem jc_sortDT (hc : X.calm = true) : JC X (.builtin "sorted") sortDT := ⟨_, call_sortedD hc, fun xs ds α H s Q S R h => by
  unfold sortDT at h
  split at h
  · next n =>
    split at h
    · next kvs e =>
      split at h
      · next ns e2 =>
        split at h
        · next c =>
          obtain ⟨v, rfl, r1⟩ := rep1 R
          obtain ⟨a, kv, rfl, _, _, hH, rf⟩ := S.dk e r1
          refine ⟨a, kv, ns, rfl, hH, ?_, of_decide_eq_true c, fun ys p h1 h2 hp => ?_⟩
          · rw [rf.1]
            exact keysT (txts_of e2)
          · rw [srtT_uniq h1 h2]
            exact new_lst S hp (RepL.strs.mpr rfl) h
        · exact h.elim
      · exact h.elim
    · exact h.elim
  · exact h.elim⟩
def sortedD : OpC := opCor sortI (opCor sortP (opCor sortT (opCor sortDI sortDT)))
theorem jc_sorted (hc : X.calm = true) : JC X (.builtin "sorted") sortedD := jc_sortI.or (jc_sortP.or (jc_sortT.or ((jc_sortDI hc).or (jc_sortDT hc))))
end
end PD

/-! Pd10: pop with an argument, dict(..), range with a step, remove. -/
namespace PD
open PySem L2
section
variable {X : Cx} {W : WX} {K : PySem.W.Frag} {α α' α1 α2 : List Addr} {H H' H1 H2 : Hp} {s s' s1 s2 : Sto} {ρ ρ' : En} {σ σ' : L2.St}
variable {e a b c o i : Expr} {es rest : List Expr} {ga gb gc go gi : GE} {gl : GA} {pos p apos cpos : Pos}
/-! xs.pop(i) -/
def popAtD : OpM := fun x xs s => match x, xs with
  | .ref n, [.int i] => (match lst? s n with
    | some l => (match ixN l.length i with
      | some k => (match l[k]? with
        | some d => if decide (l.length ≤ line) then .ok d (s.set n (.lst (l.eraseIdx k))) else .bad
        | none => .bad)
      | none => .bad)
    | none => .bad)
  | _, _ => .bad
theorem jm_popAt : JM X "list.pop" popAtD := ⟨_, mt_popAt, fun x xs d ds α H s Q S R1 R2 h => by
  unfold popAtD at h
  split at h
  · next n i =>
    split at h
    · next l q =>
      split at h
      · next k qk =>
        split at h
        · next y c =>
          split at h
          · next hz =>
            have hz' := of_decide_eq_true hz
            unfold line at hz'
            obtain ⟨p, vs, rfl, ea, e, hp, rl⟩ := S.lst q R1
            obtain ⟨v, g1, g2⟩ := rl.get c
            obtain ⟨w, rfl, rw1⟩ := rep1 R2
            cases rw1
            obtain ⟨z1, z2, z3, z4⟩ := ixN_seq qk
            refine ⟨p, vs, i, k, v, rfl, rfl, hp, by omega, by omega, by rw [rl.length]; exact z1, g1, set_lst S e ea hp (rl.eraseIdx k) (fun _ l => g2.mono l) h⟩
          · exact h.elim
        · exact h.elim
      · exact h.elim
    · exact h.elim
  · exact h.elim⟩
/-! d.pop(k) -/
def dpopD (x k : D) (s : Sto) : Res D := match x, key? k with
  | .ref n, some kk => (match dw? s n with
    | some kvs => (match valD kvs kk with
      | some d => .ok d (s.set n (.dk (dropD kvs kk)))
      | none => .bad)
    | none => .bad)
  | _, _ => .bad
def gDPop (o a : GE) : GE := fun ρ s => (o ρ s).bind fun x s1 => if isDk s1 x then (a ρ s1).bind fun k s2 => dpopD x k s2 else .bad
theorem je_dpop (ho : JE X W o go) (ha : JE X W e ga) (m : M1 X o "pop" apos e cpos := by exact ⟨rfl, rfl, rfl, rfl⟩) : JE X W (.Call (.Attribute o "pop" apos) [e] [] cpos) (gDPop go ga) := by
  obtain ⟨t, p, q⟩ := ho
  obtain ⟨u, p', q'⟩ := ha
  refine ⟨_, pe_dpop1 p p' m, fun ρ s σ α H Q E S h => q ρ s σ α H _ E S (Post.bind h fun d s1 v α1 H1 l1 S1 R1 h1 => ?_)⟩
  cases z : isDk s1 d with
  | false => rw [z] at h1; exact h1.elim
  | true =>
    rw [z] at h1
    obtain ⟨a, ea, hD⟩ := isDk_rep S1 z R1
    refine ⟨a, ea, hD, q' ρ s1 σ α1 H1 _ (E.mono l1) S1 (Post.bind h1 fun d2 s2 v2 α2 H2 l2 S2 R2 h2 => ?_)⟩
    have R1' := R1.mono l2
    unfold dpopD at h2
    split at h2
    · next n kk qk =>
      split at h2
      · next kvs qd =>
        split at h2
        · next y qv =>
          obtain ⟨b, kv, e2, eb, ee, hb, rf⟩ := S2.dw qd R1'
          have e3 : a = b := by
            have := ea.symm.trans e2
            injection this
          subst e3
          obtain ⟨f1, f2⟩ := rf.val (k := kk)
          obtain ⟨w, g1, g2⟩ := f1 y qv
          refine ⟨kv, kk, w, hb, key_rep qk R2, g1, set_dk (P := fun H' => Q w H') S2 ee eb hb rf.drop_ fun α' H' l S' => ?_⟩
          exact h2 _ _ _ l S' (g2.mono l)
        · exact h2.elim
      · exact h2.elim
    · exact h2.elim
/-- one of two readings, by what the mirror finds -/
theorem je_two {x : Expr} {g1 g2 g : GE} (h1 : JE X W x g1) (h2 : JE X W x g2) (sel : ∀ ρ s, g ρ s = g1 ρ s ∨ g ρ s = g2 ρ s) : JE X W x g := by
  obtain ⟨t, p, q⟩ := h1
  obtain ⟨u, p', q'⟩ := h2
  refine ⟨fun σ H Q => t σ H Q ∨ u σ H Q, ⟨fun pins sh σ H Q I z => z.elim (p.run pins sh σ H Q I) (p'.run pins sh σ H Q I)⟩, fun ρ s σ α H Q E S h => ?_⟩
  rcases sel ρ s with z | z
  · rw [z] at h
    exact .inl (q ρ s σ α H Q E S h)
  · rw [z] at h
    exact .inr (q' ρ s σ α H Q E S h)
def gPop1 (o a : GE) : GE := fun ρ s => match o ρ s with
  | .ok x s1 => if isDk s1 x then gDPop o a ρ s else gLM popAtD o (gCons a gNil) ρ s
  | _ => gDPop o a ρ s
theorem je_pop1 (hd : JE X W e (gDPop go ga)) (hl : JE X W e (gLM popAtD go (gCons ga gNil))) : JE X W e (gPop1 go ga) := je_two hd hl fun ρ s => by
  unfold gPop1
  split
  · split
    · exact .inl rfl
    · exact .inr rfl
  · exact .inl rfl
/-! dict(d), dict([(k, v), ..]) -/
/-! range(a, b, c) -/
end
end PD

/-! Pd11: list(range(..)). -/
namespace PD
open PySem L2
section
variable {X : Cx} {W : WX} {K : PySem.W.Frag} {α α' α1 α2 : List Addr} {H H' H1 H2 : Hp} {s s' s1 s2 : Sto} {ρ ρ' : En} {σ σ' : L2.St}
variable {e a b c o i : Expr} {ga gb gc go gi : GE} {pos p p2 pos2 : Pos}
/-! list(d): a dict's keys -/
def kD : Key → D
  | .inl i => .int i
  | .inr z => .str z
end
end PD

/-! Pd12: a dict that is walked: it is locked for the statement, the comprehension that walks it. -/
namespace PD
open PySem L2
section
variable {X : Cx} {W : WX} {K : PySem.W.Frag} {α α' α1 α2 : List Addr} {H H' H1 H2 : Hp} {s s' s1 s2 : Sto} {ρ ρ' : En} {σ σ' : L2.St} {DD : Ends}
variable {e a b c o : Expr} {ga gb gc go gi : GE} {pos p p2 pos2 : Pos} {st : Stmt} {gs : GS} {i : Nat}
def itKeys (kvs : List (Key × D)) : IT := fun i _ => some ((kvs.map fun kv => kD kv.1)[i]?)
theorem kD_rep {k : Key} : Rep K α H (kD k) (kV k) := by
  cases k with
  | inl i => rfl
  | inr z => rfl
theorem itKeys_ok {kvs : List (Key × D)} {kv : List (Key × V)} {a : Addr} {od : Obj} (hH : H a = some (.frz od (.dK kv))) (rf : kv.map (·.1) = kvs.map (·.1)) : ItRel K α H (itKeys kvs) (Itk a od kv) := fun i α1 H1 s1 l S1 => by
  have h1 := l.lk _ _ _ hH
  have hlen : kv.length = kvs.length := by
    have := congrArg List.length rf
    rwa [List.length_map, List.length_map] at this
  show ItAt K α1 H1 s1 (Itk a od kv) i (some ((kvs.map fun kv => kD kv.1)[i]?))
  cases z : (kvs.map fun kv => kD kv.1)[i]? with
  | none =>
    have := List.getElem?_eq_none_iff.mp z
    rw [List.length_map] at this
    exact ⟨h1, by omega⟩
  | some d =>
    have hi := (List.getElem?_eq_some_iff.mp z).1
    rw [List.length_map] at hi
    refine ⟨⟨h1, by omega⟩, fun x H2 hy => ?_⟩
    obtain ⟨rfl, k', v', e', rfl⟩ := hy
    refine ⟨Le.refl, S1, ?_⟩
    have e1 : (kv.map (·.1))[i]? = some k' := by rw [List.getElem?_map, e']; rfl
    rw [rf, List.getElem?_map] at e1
    rw [List.getElem?_map] at z
    cases q : kvs[i]? with
    | none => rw [q] at z; cases z
    | some w =>
      rw [q] at z e1
      have z' : kD w.1 = d := Option.some.inj z
      have e2 : w.1 = k' := Option.some.inj e1
      rw [← z', e2]
      exact kD_rep
/-- the keys of a locked dict -/
def gKeys (i : Nat) : FI := fun ρ s => match ρ[i]? with
  | some (some (.ref n)) => (match s[n]? with
    | some (.lk kvs) => .ok (itKeys kvs) s
    | _ => .bad)
  | _ => .bad
theorem ji_keysL {tg : Expr} {x : Str} (hv : JE X W (.Name x p) (gVar i)) : JI X W tg (.Name x p) (gKeys i) := by
  obtain ⟨t, p1, q⟩ := hv
  refine ⟨_, pi_keys p1, fun ρ s σ α H R E S h => ?_⟩
  unfold gKeys at h
  cases z : ρ[i]? with
  | none => rw [z] at h; exact h.elim
  | some w =>
    cases w with
    | none => rw [z] at h; exact h.elim
    | some d =>
      cases d with
      | ref n =>
        rw [z] at h
        have h1 : Post X.K (ItRel X.K) W α H σ (match s[n]? with
          | some (.lk kvs) => .ok (itKeys kvs) s
          | _ => .bad) R := h
        cases z2 : s[n]? with
        | none => rw [z2] at h1; exact h1.elim
        | some ob =>
          rw [z2] at h1
          cases ob with
          | lk kvs =>
            refine q ρ s σ α H _ E S ?_
            unfold gVar
            rw [z]
            intro v α1 H1 l1 S1 R1
            obtain ⟨b, g1, rfl⟩ := R1
            obtain ⟨a', k1, kv, od, k2, k3⟩ := S1.at_ n _ z2
            rw [g1] at k1
            cases k1
            refine ⟨_, od, rfl, .inl ⟨kv, k2, ?_⟩⟩
            exact h1 _ α1 H1 l1 S1 (itKeys_ok k2 k3.1)
          | _ => exact h1.elim
      | _ => rw [z] at h; exact h.elim
/-! ### lock, and free again -/
def RS.unlk (n : Nat) (r : RS) : RS := match r with
  | .nx ρ s => (match s[n]? with
    | some (.lk l) => .nx ρ (s.set n (.dk l))
    | _ => .bad)
  | .rt d s => (match s[n]? with
    | some (.lk l) => .rt d (s.set n (.dk l))
    | _ => .bad)
  | .bk ρ s => (match s[n]? with
    | some (.lk l) => .bk ρ (s.set n (.dk l))
    | _ => .bad)
  | .ct ρ s => (match s[n]? with
    | some (.lk l) => .ct ρ (s.set n (.dk l))
    | _ => .bad)
  | .err e ρ s => .err e ρ s
  | .bad => .bad
def gLockS (i : Nat) (g : GS) : GS := fun ρ s => match ρ[i]? with
  | some (some (.ref n)) => (match s[n]? with
    | some (.dk kvs) => (g ρ (s.set n (.lk kvs))).unlk n
    | _ => .bad)
  | _ => .bad
/-- behind a stay under lock -/
theorem free_again {n : Nat} {a : Addr} {od : Obj} {kv : List (Key × V)} {l : List (Key × D)} (hH : H a = some (.dK kv)) (ea : α[n]? = some a) (l1 : Le K α (upd H a (.frz od (.dK kv))) α' H') (S : SOk K α' H' s') (e : s'[n]? = some (.lk l)) (E : ERel K α' H' ρ' σ') :
    H' a = some (.frz od (.dK kv)) ∧ Le K α H α' (upd H' a (.dK kv)) ∧ SOk K α' (upd H' a (.dK kv)) (s'.set n (.dk l)) ∧ ERel K α' (upd H' a (.dK kv)) ρ' σ' ∧ LeT K α' H' α' (upd H' a (.dK kv)) := by
  have hH' : H' a = some (.frz od (.dK kv)) := l1.lk _ _ _ upd_same
  have ea' := l1.get ea
  obtain ⟨S2, l2⟩ := S.unlock e ea' hH'
  have l0 : LeT K α H α (upd H a (.frz od (.dK kv))) := LeT.write hH (fun _ z => by cases z) (fun _ _ z => by cases z)
  refine ⟨hH', ⟨⟨l1.pre, fun b vs q => l2.tup _ _ (l1.tup _ _ (l0.tup _ _ q)), fun b z q => l2.code _ _ (l1.code _ _ (l0.code _ _ q))⟩, fun b ob kv' q => ?_⟩, S2, E.monoT l2, l2⟩
  have hb : b ≠ a := fun z => by
    subst z
    rw [hH] at q
    cases q
  rw [upd_ne hb]
  exact l1.lk _ _ _ (by rw [upd_ne hb]; exact q)
theorem js_lock {i : Nat} (h : JS X W st gs) : JS X W st (gLockS i gs) := by
  obtain ⟨t, p1, q⟩ := h
  refine ⟨_, ps_lock p1, fun ρ s σ α H D E S h => ?_⟩
  unfold gLockS at h
  cases z : ρ[i]? with
  | none => rw [z] at h; exact h.elim
  | some w =>
    cases w with
    | none => rw [z] at h; exact h.elim
    | some d =>
      cases d with
      | ref n =>
        rw [z] at h
        have h1 : SPost X.K W α H (match s[n]? with
          | some (.dk kvs) => (gs ρ (s.set n (.lk kvs))).unlk n
          | _ => .bad) D := h
        cases z2 : s[n]? with
        | none => rw [z2] at h1; exact h1.elim
        | some ob =>
          rw [z2] at h1
          cases ob with
          | dk kvs =>
            have h2 : SPost X.K W α H ((gs ρ (s.set n (.lk kvs))).unlk n) D := h1
            obtain ⟨a, ea, kv, hH, rf⟩ := S.at_ n _ z2
            refine ⟨a, .dK kv, hH, trivial, fun od => ?_⟩
            obtain ⟨S1, l1⟩ := S.lock (od := od) z2 ea hH rf
            refine q ρ (s.set n (.lk kvs)) σ α _ _ (E.mono l1) S1 ?_
            cases r : gs ρ (s.set n (.lk kvs)) with
            | nx ρ' s' =>
              rw [r] at h2
              intro σ' α' H' l2 S2 E2
              unfold RS.unlk at h2
              cases z3 : s'[n]? with
              | none => simp only [z3] at h2; exact h2.elim
              | some ob2 =>
                cases ob2 with
                | lk l' =>
                  simp only [z3] at h2
                  obtain ⟨k1, k2, k3, k4, _⟩ := free_again hH ea l2 S2 z3 E2
                  exact ⟨k1, h2 σ' α' _ k2 k3 k4⟩
                | _ => simp only [z3] at h2; exact h2.elim
            | bk ρ' s' =>
              rw [r] at h2
              intro σ' α' H' l2 S2 E2
              unfold RS.unlk at h2
              cases z3 : s'[n]? with
              | none => simp only [z3] at h2; exact h2.elim
              | some ob2 =>
                cases ob2 with
                | lk l' =>
                  simp only [z3] at h2
                  obtain ⟨k1, k2, k3, k4, _⟩ := free_again hH ea l2 S2 z3 E2
                  exact ⟨k1, h2 σ' α' _ k2 k3 k4⟩
                | _ => simp only [z3] at h2; exact h2.elim
            | ct ρ' s' =>
              rw [r] at h2
              intro σ' α' H' l2 S2 E2
              unfold RS.unlk at h2
              cases z3 : s'[n]? with
              | none => simp only [z3] at h2; exact h2.elim
              | some ob2 =>
                cases ob2 with
                | lk l' =>
                  simp only [z3] at h2
                  obtain ⟨k1, k2, k3, k4, _⟩ := free_again hH ea l2 S2 z3 E2
                  exact ⟨k1, h2 σ' α' _ k2 k3 k4⟩
                | _ => simp only [z3] at h2; exact h2.elim
            | rt d' s' =>
              rw [r] at h2
              intro v α' H' l2 S2 R2
              unfold RS.unlk at h2
              cases z3 : s'[n]? with
              | none => simp only [z3] at h2; exact h2.elim
              | some ob2 =>
                cases ob2 with
                | lk l' =>
                  simp only [z3] at h2
                  obtain ⟨k1, k2, k3, _, k5⟩ := free_again hH ea l2 S2 z3 (E.mono (l1.trans l2))
                  exact ⟨k1, h2 v α' _ k2 k3 (R2.monoT k5)⟩
                | _ => simp only [z3] at h2; exact h2.elim
            | err ee ρ' s' =>
              rw [r] at h2
              intro c dd σ' α' H' l2 S2 E2 X2
              exact h2 c dd σ' α' H' (l1.trans l2) S2 E2 X2
            | bad => rw [r] at h2; exact h2.elim
          | _ => exact h1.elim
      | _ => rw [z] at h; exact h.elim
end
end PD

/-! Pd13: a list from its end: l[::-1]. -/
namespace PD
open PySem L2 PyProof.Rows PyProof
section
variable {X : Cx} {W : WX} {K : PySem.W.Frag} {α α' α1 α2 : List Addr} {H H' H1 H2 : Hp} {s s' s1 s2 : Sto} {ρ ρ' : En} {σ σ' : L2.St}
variable {e a st : Expr} {ga : GE} {pos p p2 : Pos} {te : TE} {ts : TO}
end
end PD

/-! Pd14: list(reversed(l)). -/
namespace PySem
open PySem.Spec PyProof.Rows PyProof
section
variable {prog : Program} {w : World} {A : Around} {E : Value → Shared → Prop} {s : Shared}
end
end PySem
namespace PD
open PySem L2 PyProof.Rows PyProof
section
variable {X : Cx} {W : WX} {K : PySem.W.Frag} {α α' α1 α2 : List Addr} {H H' H1 H2 : Hp} {s s' s1 s2 : Sto} {ρ ρ' : En} {σ σ' : L2.St}
end
end PD

/-! Pd15: sorted of a tuple of pairs of whole numbers. -/
namespace SrtO
open PySem PySem.Spec PyProof.Rows Srt
section
variable {prog : Program} {w : World} {A : Around} {E : Value → Shared → Prop} {s : Shared}
end
end SrtO
namespace PD
open PySem L2 PyProof.Rows PyProof
section
variable {X : Cx} {W : WX} {K : PySem.W.Frag} {α α' α1 α2 : List Addr} {H H' H1 H2 : Hp} {s s' s1 s2 : Sto} {σ σ' : L2.St}
end
end PD

/-! Pd16: min of a list of pairs of whole numbers; remove of such a pair. -/
namespace PD
open PySem L2 PyProof.Rows PyProof
section
variable {X : Cx} {W : WX} {K : PySem.W.Frag} {α α' α1 α2 : List Addr} {H H' H1 H2 : Hp} {s s' s1 s2 : Sto} {σ σ' : L2.St}
end
end PD

/-! Pdv: dicts by tuples of ints and texts; the key is written as a display. -/
namespace PD
open PySem L2
def keysT? : List D → Option (List Key)
  | [] => some []
  | d :: l => (match key? d with
    | some k => (match keysT? l with
      | some ks => some (k :: ks)
      | none => none)
    | none => none)
section
variable {X : Cx} {W : WX} {K : PySem.W.Frag} {α α' α1 α2 : List Addr} {H H' H1 H2 : Hp} {s s' s1 s2 : Sto} {ρ ρ' : En} {σ σ' : L2.St}
variable {e o : Expr} {es : List Expr} {ga go : GE} {gl : GA} {pos : Pos}
theorem keysT_rep : ∀ {l : List D} {ks : List Key} {vs : List V}, keysT? l = some ks → RepL K α H l vs → vs = ks.map kV
  | [], ks, vs, h, r => by
    cases h
    exact r
  | d :: l, ks, vs, h, r => by
    obtain ⟨v, r', e1, r1, r2⟩ := r
    have h' : (match key? d with
      | some k => (match keysT? l with
        | some ks => some (k :: ks)
        | none => none)
      | none => none) = some ks := h
    cases q1 : key? d with
    | none => rw [q1] at h'; cases h'
    | some k =>
      cases q2 : keysT? l with
      | none => rw [q1, q2] at h'; cases h'
      | some ks' =>
        rw [q1, q2] at h'
        cases h'
        rw [e1, key_rep q1 r1, keysT_rep q2 r2]
        rfl
def dt? (s : Sto) (n : Nat) : Option (List (List Key × D)) := match s[n]? with
  | some (.dt l) => some l
  | _ => none
theorem SOk.dt {n : Nat} {l : List (List Key × D)} (S : SOk K α H s) (h : dt? s n = some l) {v : V} (r : Rep K α H (.ref n) v) : ∃ a kv, v = .ref a ∧ α[n]? = some a ∧ s[n]? = some (.dt l) ∧ H a = some (.dT kv) ∧ RepF K α H l kv := by
  unfold dt? at h
  cases e : s[n]? with
  | none => rw [e] at h; cases h
  | some o =>
    rw [e] at h
    cases o with
    | dt l' =>
      cases h
      obtain ⟨a, h1, h2⟩ := S.at_ n _ e
      obtain ⟨b, g1, g2⟩ := r
      rw [h1] at g1
      cases g1
      obtain ⟨kv, q1, q2⟩ := h2
      exact ⟨_, kv, g2, h1, rfl, q1, q2⟩
    | _ => cases h
def gDt0 : GE := fun _ s => newO (.dt []) s
theorem je_dt0 : JE X W (.Dict [] [] pos) gDt0 := ⟨_, pe_dnewT, fun ρ s σ α H Q E S h p hp => by
  obtain ⟨S1, l1⟩ := S.alloc (o := .dt []) (u := .dT []) hp fun α' H' l q => ⟨[], q, rfl, rfl⟩
  refine h _ _ _ l1 S1 ⟨p, ?_, rfl⟩
  rw [← S.len, List.getElem?_append_right (Nat.le_refl _), Nat.sub_self]
  rfl⟩
/-- d.get((a, b)) -/
def gGetT (o : GE) (i : GA) : GE := fun ρ s => (o ρ s).bind fun x s1 => match x with
  | .ref n => (match dt? s1 n with
    | some _ => (i ρ s1).bind fun l s2 => match keysT? l with
      | some ks => (match dt? s2 n with
        | some kvs => if decide (l.length ≤ line) then .ok ((valD kvs ks).getD .non) s2 else .bad
        | none => .bad)
      | none => .bad
    | none => .bad)
  | _ => .bad
theorem je_getT {k x1 : Nat} {apos cpos : Pos} (hr : Room k X.A) (ho : JE X W o go) (ha : JA X W es gl) (m : M1 X o "get" apos (.Tuple es x1 pos) cpos := by exact ⟨rfl, rfl, rfl, rfl⟩) :
    JE X W (.Call (.Attribute o "get" apos) [.Tuple es x1 pos] [] cpos) (gGetT go gl) := by
  obtain ⟨t, p, q⟩ := ho
  obtain ⟨u, p', q'⟩ := ha
  refine ⟨_, pe_dget1 (hu_of hr) p (pe_tup p') m, fun ρ s σ α H Q E S h => q ρ s σ α H _ E S (Post.bind h fun d s1 v α1 H1 l1 S1 R1 h1 => ?_)⟩
  cases d with
  | ref n =>
    cases z : dt? s1 n with
    | none => simp only [z] at h1; exact h1.elim
    | some l0 =>
      simp only [z] at h1
      obtain ⟨a, kv, rfl, ea, ee, hp, rf⟩ := S1.dt z R1
      refine ⟨a, rfl, .inr ⟨kv, .inl hp⟩, q' ρ s1 σ α1 H1 _ (E.mono l1) S1 (Post.bind h1 fun l s2 vs α2 H2 l2 S2 R2 h2 => ?_)⟩
      cases z2 : keysT? l with
      | none => simp only [z2] at h2; exact h2.elim
      | some ks =>
        cases z3 : dt? s2 n with
        | none => simp only [z2, z3] at h2; exact h2.elim
        | some kvs =>
          simp only [z2, z3] at h2
          cases c : decide (l.length ≤ line) with
          | false => rw [c] at h2; exact h2.elim
          | true =>
            rw [c, if_pos rfl] at h2
            refine ⟨by rw [R2.length]; exact line_ok c, fun b hb => ?_⟩
            obtain ⟨a', kv', e', ea', ee', hp', rf'⟩ := S2.dt z3 (R1.mono l2)
            injection e' with e'
            subst e'
            refine ⟨valV kv' ks, .inr ⟨kv', ks, b, .inl (by rw [upd_ne (ne_of_none hp' hb)]; exact hp'), rfl, by rw [upd_same, keysT_rep z2 R2], rfl⟩, ?_⟩
            obtain ⟨f1, f2⟩ := rf'.val (k := ks)
            cases z4 : valD kvs ks with
            | none =>
              rw [z4] at h2
              rw [f2 z4]
              exact h2 _ _ _ (Le.new hb) (S2.new hb) rfl
            | some d' =>
              rw [z4] at h2
              obtain ⟨w, g1, g2⟩ := f1 d' z4
              rw [g1]
              exact h2 _ _ _ (Le.new hb) (S2.new hb) (g2.mono (Le.new hb))
  | _ => exact h1.elim
theorem set_dt {n : Nat} {p : Addr} {l l' : List (List Key × D)} {kv kv' : List (List Key × V)} {P : Hp → Prop} (S : SOk K α H s) (e : s[n]? = some (.dt l)) (ea : α[n]? = some p) (h : H p = some (.dT kv)) (r : RepF K α H l' kv')
    (q : ∀ α' H', Le K α H α' H' → SOk K α' H' (s.set n (.dt l')) → P H') : P (upd H p (.dT kv')) := by
  obtain ⟨S1, l1⟩ := S.write (u := .dT kv) (u' := .dT kv') (o' := .dt l') e ea h rfl rfl (fun _ z => by cases z) (fun _ _ z => by cases z) fun H' l z => ⟨kv', z, r.monoT l⟩
  exact q _ _ l1 S1
/-- d[(a, b)] = e -/
def gPutT (o : GE) (i : GA) (e : GE) : GS := fun ρ s => (e ρ s).st ρ fun v s1 => (o ρ s1).st ρ fun x s2 => (i ρ s2).st ρ fun l s3 => match x with
  | .ref n => (match keysT? l with
    | some ks => (match dt? s3 n with
      | some kvs => if decide (l.length ≤ line) && decide (kvs.length < line) then .nx ρ (s3.set n (.dt (putD kvs ks v))) else .bad
      | none => .bad)
    | none => .bad)
  | _ => .bad
theorem js_putT {k x1 : Nat} {pos' pos2 : Pos} (hr : Room k X.A) (he : JE X W e ga) (ho : JE X W o go) (hi : JA X W es gl) (hs : swapsWith e (some (.Subscript o (.Tuple es x1 pos2) pos')) pos.line X.env = pure false := by rfl) :
    JS X W (.Assign [.Subscript o (.Tuple es x1 pos2) pos'] e pos) (gPutT go gl ga) := by
  obtain ⟨te, p, q⟩ := he
  obtain ⟨to, p', q'⟩ := ho
  obtain ⟨ti, p2, q2⟩ := hi
  refine ⟨_, ps_dput (hu_of hr) p' (pe_tup p2) p hs, fun ρ s σ α H D E S h => ?_⟩
  refine q ρ s σ α H _ E S (SPost.st E h fun dv s1 v α1 H1 l1 S1 R1 h1 => ?_)
  refine q' ρ s1 σ α1 H1 _ (E.mono l1) S1 (SPost.st (E.mono l1) h1 fun dx s2 x α2 H2 l2 S2 R2 h2 => ?_)
  refine q2 ρ s2 σ α2 H2 _ (E.mono (l1.trans l2)) S2 (SPost.st (E.mono (l1.trans l2)) h2 fun l s3 vs α3 H3 l3 S3 R3 h3 => ?_)
  cases dx with
  | ref n =>
    cases z2 : keysT? l with
    | none => simp only [z2] at h3; exact h3.elim
    | some ks =>
      cases z3 : dt? s3 n with
      | none => simp only [z2, z3] at h3; exact h3.elim
      | some kvs =>
        simp only [z2, z3] at h3
        cases c : (decide (l.length ≤ line) && decide (kvs.length < line)) with
        | false => rw [c] at h3; exact h3.elim
        | true =>
          rw [c, if_pos rfl] at h3
          obtain ⟨c1, c2⟩ := Bool.and_eq_true_iff.mp c
          refine ⟨by rw [R3.length]; exact line_ok c1, fun b hb => ?_⟩
          obtain ⟨a, kv, rfl, ea, ee, hp, rf⟩ := S3.dt z3 (R2.mono l3)
          have lb : Le X.K α3 H3 α3 (upd H3 b (.tup vs)) := Le.new hb
          refine ⟨a, _, rfl, .inr ⟨kv, ks, b, by rw [upd_ne (ne_of_none hp hb)]; exact hp, rfl, by rw [upd_same, keysT_rep z2 R3], ?_, rfl⟩, ?_⟩
          · rw [rf.len]
            exact Nat.lt_of_lt_of_le (of_decide_eq_true c2) (by decide)
          · refine set_dt (P := D.nx σ) (S3.new hb) ee ea (by rw [upd_ne (ne_of_none hp hb)]; exact hp) ((rf.mono lb).put ((R1.mono (l2.trans l3)).mono lb)) fun α' H' l' S' => h3 σ α' H' (lb.trans l') S' (E.mono (((l1.trans l2).trans l3).trans (lb.trans l')))
  | _ => exact h3.elim
end
end PD

/-! Pdm: what is wanted of a result (EW, TW, AW, SW), and how it is asked of each form. -/
namespace PD
open PySem L2
def EW {β : Type} (r : Res β) (Q : β → Sto → Prop) : Prop := match r with
  | .ok d s => Q d s
  | _ => False
/-- next; return; break; continue -/
def SW (r : RS) (N : En → Sto → Prop) (R : D → Sto → Prop) (B C : En → Sto → Prop) : Prop := match r with
  | .nx ρ s => N ρ s
  | .rt d s => R d s
  | .bk ρ s => B ρ s
  | .ct ρ s => C ρ s
  | _ => False
/-- one of two, by a truth -/
def Br (x : Bool) (A B : Prop) : Prop := match x with
  | true => A
  | false => B
@[simp] theorem br_t {A B : Prop} : Br true A B ↔ A := Iff.rfl
@[simp] theorem br_f {A B : Prop} : Br false A B ↔ B := Iff.rfl
@[simp] theorem br_n {x : Bool} {A B : Prop} : Br (!x) A B ↔ Br x B A := by cases x <;> exact Iff.rfl
@[simp] theorem br_same {x : Bool} {A : Prop} : Br x A A ↔ A := by cases x <;> exact Iff.rfl
theorem br_of {x : Bool} {A B : Prop} (h1 : x = true → A) (h2 : x = false → B) : Br x A B := by
  cases x
  · exact h2 rfl
  · exact h1 rfl
/-- a truth is there -/
def WB (d : D) (Q : Bool → Prop) : Prop := match d with
  | .bl k => Q k
  | _ => False
@[simp] theorem wb_bl {k : Bool} {Q : Bool → Prop} : WB (.bl k) Q ↔ Q k := Iff.rfl
@[simp] theorem wb_non {Q : Bool → Prop} : WB .non Q ↔ False := Iff.rfl
@[simp] theorem wb_int {i : Int} {Q : Bool → Prop} : WB (.int i) Q ↔ False := Iff.rfl
@[simp] theorem wb_str {z : Str} {Q : Bool → Prop} : WB (.str z) Q ↔ False := Iff.rfl
@[simp] theorem wb_tup {l : List D} {Q : Bool → Prop} : WB (.tup l) Q ↔ False := Iff.rfl
@[simp] theorem wb_ref {n : Nat} {Q : Bool → Prop} : WB (.ref n) Q ↔ False := Iff.rfl
@[simp] theorem wb_hot {a : Addr} {dn : Option (Addr × Nat)} {Q : Bool → Prop} : WB (.hot a dn) Q ↔ False := Iff.rfl
/-- an item is there -/
def WO {β : Type} (o : Option β) (Q : β → Prop) : Prop := match o with
  | some k => Q k
  | none => False
@[simp] theorem wo_some {β : Type} {k : β} {Q : β → Prop} : WO (some k) Q ↔ Q k := Iff.rfl
@[simp] theorem wo_none {β : Type} {Q : β → Prop} : WO (none : Option β) Q ↔ False := Iff.rfl
theorem WO.of {β : Type} {o : Option β} {k : β} {Q : β → Prop} (e : o = some k) (h : Q k) : WO o Q := by
  rw [e]
  exact h
/-- a method is there -/
def MW (m : Str) (tab : List (Str × Fn)) (x : D) (s : Sto) (P : Fn → Prop) : Prop := ∃ c fs fn, ins? s x = some (c, fs) ∧ tab.find? (fun q => decide (q.1 = c)) = some (c, fn) ∧ fldD fs m = none ∧ P fn
theorem mw_of {m : Str} {tab : List (Str × Fn)} {x : D} {s : Sto} {P : Fn → Prop} {c : Str} {fs : List (Str × D)} {fn : Fn} (hi : ins? s x = some (c, fs)) (ht : tab.find? (fun q => decide (q.1 = c)) = some (c, fn)) (hf : fldD fs m = none) : MW m tab x s P ↔ P fn := by
  constructor
  · rintro ⟨c', fs', fn', e1, e2, _, q⟩
    rw [hi] at e1
    cases e1
    rw [ht] at e2
    cases e2
    exact q
  · exact fun q => ⟨c, fs, fn, hi, ht, hf, q⟩
/-- by a test that is decided -/
theorem br_d {p : Prop} [Decidable p] {A B : Prop} (h1 : p → A) (h2 : ¬ p → B) : Br (decide p) A B := br_of (fun h => h1 (of_decide_eq_true h)) (fun h => h2 (of_decide_eq_false h))
section
variable {β γ : Type} {ρ ρ' : En} {s s' s1 : Sto} {N B C : En → Sto → Prop} {R : D → Sto → Prop} {Q : D → Sto → Prop}
@[simp] theorem ew_ok {d : β} {Q : β → Sto → Prop} : EW (.ok d s) Q ↔ Q d s := Iff.rfl
@[simp] theorem ew_bad {Q : β → Sto → Prop} : EW (.bad : Res β) Q ↔ False := Iff.rfl
@[simp] theorem ew_err {e : Exn} {Q : β → Sto → Prop} : EW (.err e s : Res β) Q ↔ False := Iff.rfl
@[simp] theorem ew_bind {r : Res β} {k : β → Sto → Res γ} {Q : γ → Sto → Prop} : EW (r.bind k) Q ↔ EW r fun d s => EW (k d s) Q := by
  cases r <;> exact Iff.rfl
@[simp] theorem ew_still {r : Res β} {Q : β → Sto → Prop} : EW r.still Q ↔ EW r Q := by
  cases r <;> exact Iff.rfl
theorem EW.mono {r : Res β} {Q Q' : β → Sto → Prop} (h : EW r Q) (i : ∀ d s, Q d s → Q' d s) : EW r Q' := by
  cases r with
  | ok d s => exact i d s h
  | err e s => exact h
  | bad => exact h
theorem EW.ex {r : Res β} {Q : β → Sto → Prop} (h : EW r Q) : ∃ d s, r = .ok d s ∧ Q d s := by
  cases r with
  | ok d s => exact ⟨d, s, rfl, h⟩
  | err e s => exact h.elim
  | bad => exact h.elim
theorem EW.of {r : Res β} {Q : β → Sto → Prop} {d : β} {s : Sto} (e : r = .ok d s) (h : Q d s) : EW r Q := by
  rw [e]
  exact h
@[simp] theorem sw_nx : SW (.nx ρ s) N R B C ↔ N ρ s := Iff.rfl
@[simp] theorem sw_rt {d : D} : SW (.rt d s) N R B C ↔ R d s := Iff.rfl
@[simp] theorem sw_bk : SW (.bk ρ s) N R B C ↔ B ρ s := Iff.rfl
@[simp] theorem sw_ct : SW (.ct ρ s) N R B C ↔ C ρ s := Iff.rfl
@[simp] theorem sw_bad : SW .bad N R B C ↔ False := Iff.rfl
@[simp] theorem sw_err {e : Exn} : SW (.err e ρ s) N R B C ↔ False := Iff.rfl
@[simp] theorem sw_st {r : Res β} {k : β → Sto → RS} : SW (r.st ρ k) N R B C ↔ EW r fun d s => SW (k d s) N R B C := by
  cases r <;> exact Iff.rfl
@[simp] theorem sw_next {r : RS} {k : En → Sto → RS} : SW (r.next k) N R B C ↔ SW r (fun ρ s => SW (k ρ s) N R B C) R B C := by
  cases r <;> exact Iff.rfl
theorem SW.mono {r : RS} {N' B' C' : En → Sto → Prop} {R' : D → Sto → Prop} (h : SW r N R B C) (hN : ∀ ρ s, N ρ s → N' ρ s) (hR : ∀ d s, R d s → R' d s) (hB : ∀ ρ s, B ρ s → B' ρ s) (hC : ∀ ρ s, C ρ s → C' ρ s) : SW r N' R' B' C' := by
  cases r with
  | nx ρ s => exact hN _ _ h
  | rt d s => exact hR _ _ h
  | bk ρ s => exact hB _ _ h
  | ct ρ s => exact hC _ _ h
  | err e ρ s => exact h
  | bad => exact h
/-- a def's run -/
theorem ew_run {n p : Nat} {b : GS} {ds : List D} {Q : D → Sto → Prop} (hl : ds.length = p) : EW (run n p b ds s) Q ↔ SW (b (startD n ds) s) (fun _ s => Q .non s) Q (fun _ _ => False) (fun _ _ => False) := by
  unfold run
  rw [if_pos (decide_eq_true hl)]
  cases b (startD n ds) s <;> exact Iff.rfl
variable {a b c o i : GE} {gl : GA} {t u : GT} {gs gr : GS} {op op' : Op2}
@[simp] theorem ew_var {i : Nat} : EW (gVar i ρ s) Q ↔ WO ρ[i]? fun o => WO o fun d => Q d s := by
  unfold gVar
  cases h : ρ[i]? with
  | none => simp
  | some o => cases o <;> simp
@[simp] theorem ew_c {d : D} : EW (gC d ρ s) Q ↔ Q d s := Iff.rfl
@[simp] theorem ew_op : EW (gOp op a b ρ s) Q ↔ EW (a ρ s) fun x s1 => EW (b ρ s1) fun y s2 => EW (op x y s2) Q := by
  simp [gOp]
@[simp] theorem ew_quiet {x y : D} : EW (quiet op x y s) Q ↔ EW (op x y s) Q := by simp [quiet]
@[simp] theorem ew_un {op : D → Sto → Res D} : EW (gUn op a ρ s) Q ↔ EW (a ρ s) fun x s1 => EW (op x s1) Q := by simp [gUn]
@[simp] theorem ew_T {Q : Bool → Sto → Prop} : EW (gT a ρ s) Q ↔ EW (a ρ s) fun x s1 => WO (tru? s1 x) fun k => Q k s1 := by
  unfold gT
  rw [ew_bind]
  apply iff_of_eq
  congr 1
  funext x s1
  cases h : tru? s1 x <;> simp [h]
@[simp] theorem ew_Tb {Q : Bool → Sto → Prop} : EW (gTb a ρ s) Q ↔ EW (a ρ s) fun x s1 => WB x fun k => Q k s1 := by
  unfold gTb
  rw [ew_bind]
  apply iff_of_eq
  congr 1
  funext x s1
  cases x <;> simp
@[simp] theorem ew_not {Q : Bool → Sto → Prop} : EW (gNot t ρ s) Q ↔ EW (t ρ s) fun x s1 => Q (!x) s1 := by simp [gNot]
@[simp] theorem ew_and {Q : Bool → Sto → Prop} : EW (gAnd t u ρ s) Q ↔ EW (t ρ s) fun x s1 => Br x (EW (u ρ s1) Q) (Q false s1) := by
  unfold gAnd
  rw [ew_bind]
  apply iff_of_eq
  congr 1
  funext x s1
  cases x <;> simp
@[simp] theorem ew_or {Q : Bool → Sto → Prop} : EW (gOr t u ρ s) Q ↔ EW (t ρ s) fun x s1 => Br x (Q true s1) (EW (u ρ s1) Q) := by
  unfold gOr
  rw [ew_bind]
  apply iff_of_eq
  congr 1
  funext x s1
  cases x <;> simp
@[simp] theorem ew_andV : EW (gAndV a b ρ s) Q ↔ EW (a ρ s) fun x s1 => WB x fun k => Br k (EW (b ρ s1) Q) (Q (.bl false) s1) := by
  unfold gAndV
  rw [ew_bind]
  apply iff_of_eq
  congr 1
  funext x s1
  cases x with
  | bl k => cases k <;> simp
  | _ => simp
@[simp] theorem ew_orV : EW (gOrV a b ρ s) Q ↔ EW (a ρ s) fun x s1 => WB x fun k => Br k (Q (.bl true) s1) (EW (b ρ s1) Q) := by
  unfold gOrV
  rw [ew_bind]
  apply iff_of_eq
  congr 1
  funext x s1
  cases x with
  | bl k => cases k <;> simp
  | _ => simp
@[simp] theorem ew_notV : EW (gNotV a ρ s) Q ↔ EW (a ρ s) fun x s1 => WB x fun k => Q (.bl (!k)) s1 := by
  unfold gNotV
  rw [ew_bind]
  apply iff_of_eq
  congr 1
  funext x s1
  cases x <;> simp
@[simp] theorem ew_ifE : EW (gIfE t a b ρ s) Q ↔ EW (t ρ s) fun x s1 => Br x (EW (a ρ s1) Q) (EW (b ρ s1) Q) := by
  unfold gIfE
  rw [ew_bind]
  apply iff_of_eq
  congr 1
  funext x s1
  cases x <;> simp
@[simp] theorem ew_chain : EW (gChain op op' a b c ρ s) Q ↔ EW (a ρ s) fun x s1 => EW (b ρ s1) fun y s2 => EW (op x y s2) fun z s3 => WB z fun k => Br k (EW (c ρ s3) fun w s4 => EW (op' y w s4) Q) (Q (.bl false) s3) := by
  unfold gChain
  rw [ew_bind]
  apply iff_of_eq
  congr 1
  funext x s1
  rw [ew_bind]
  congr 1
  funext y s2
  rw [ew_bind, ew_quiet]
  congr 1
  funext z s3
  cases z with
  | bl k => cases k <;> simp
  | _ => simp
@[simp] theorem ew_isI {T : Ty} : EW (gIsI T a ρ s) Q ↔ EW (a ρ s) fun x s1 => WO (tyOf s1 x) fun k => Q (.bl (k.is T)) s1 := by
  unfold gIsI
  rw [ew_bind]
  apply iff_of_eq
  congr 1
  funext x s1
  cases h : tyOf s1 x <;> simp [h]
@[simp] theorem ew_nil {Q : List D → Sto → Prop} : EW (gNil ρ s) Q ↔ Q [] s := Iff.rfl
@[simp] theorem ew_cons {Q : List D → Sto → Prop} : EW (gCons a gl ρ s) Q ↔ EW (a ρ s) fun x s1 => EW (gl ρ s1) fun l s2 => Q (x :: l) s2 := by
  simp [gCons]
@[simp] theorem ew_tup : EW (gTup gl ρ s) Q ↔ EW (gl ρ s) fun l s1 => l.length ≤ 1000000 ∧ Q (.tup l) s1 := by
  unfold gTup
  rw [ew_bind]
  apply iff_of_eq
  congr 1
  funext l s1
  by_cases h : l.length ≤ line <;> simp [h]
@[simp] theorem ew_new {ob : O} : EW (newO ob s) Q ↔ Q (.ref s.length) (s ++ [ob]) := Iff.rfl
@[simp] theorem ew_lst : EW (gLst gl ρ s) Q ↔ EW (gl ρ s) fun l s1 => l.length ≤ 1000000 ∧ Q (.ref s1.length) (s1 ++ [.lst l]) := by
  unfold gLst
  rw [ew_bind]
  apply iff_of_eq
  congr 1
  funext l s1
  by_cases h : l.length ≤ line <;> simp [h]
@[simp] theorem ew_dct0 : EW (gDct0 ρ s) Q ↔ Q (.ref s.length) (s ++ [.dk []]) := Iff.rfl
@[simp] theorem ew_call {m : Fn} : EW (gCall m gl ρ s) Q ↔ EW (gl ρ s) fun l s1 => EW (m l s1) Q := by simp [gCall]
@[simp] theorem ew_cb {op : OpC} : EW (gCB op gl ρ s) Q ↔ EW (gl ρ s) fun l s1 => EW (op l s1) Q := by simp [gCB]
@[simp] theorem ew_noPart {Q : Option Int → Sto → Prop} : EW (gNoPart ρ s) Q ↔ Q none s := Iff.rfl
@[simp] theorem ew_part {Q : Option Int → Sto → Prop} : EW (gPart a ρ s) Q ↔ EW (a ρ s) fun x s1 => ∃ i, x = .int i ∧ Q (some i) s1 := by
  unfold gPart
  rw [ew_bind]
  apply iff_of_eq
  congr 1
  funext x s1
  cases x <;> simp
@[simp] theorem ew_sl {lo hi : FO} : EW (gSl a lo hi ρ s) Q ↔ EW (a ρ s) fun x s1 => EW (lo ρ s1) fun l s2 => EW (hi ρ s2) fun h s3 => EW (slD x l h s3) Q := by simp [gSl]
@[simp] theorem ew_lm {op : OpM} : EW (gLM op a gl ρ s) Q ↔ EW (a ρ s) fun x s1 => isL s1 x = true ∧ EW (gl ρ s1) fun l s2 => EW (op x l s2) Q := by
  unfold gLM
  rw [ew_bind]
  apply iff_of_eq
  congr 1
  funext x s1
  cases h : isL s1 x <;> simp [h]
@[simp] theorem ew_sm {op : OpM} : EW (gSM op a b ρ s) Q ↔ EW (a ρ s) fun x s1 => ∃ z, x = .str z ∧ EW (b ρ s1) fun y s2 => EW (op (.str z) [y] s2) Q := by
  unfold gSM
  rw [ew_bind]
  apply iff_of_eq
  congr 1
  funext x s1
  cases x <;> simp
@[simp] theorem ew_sm0 {op : OpM} : EW (gSM0 op a ρ s) Q ↔ EW (a ρ s) fun x s1 => ∃ z, x = .str z ∧ EW (op (.str z) [] s1) Q := by
  unfold gSM0
  rw [ew_bind]
  apply iff_of_eq
  congr 1
  funext x s1
  cases x <;> simp
@[simp] theorem ew_bits : EW (gBits a ρ s) Q ↔ EW (a ρ s) fun x s1 => ∃ i, x = .int i ∧ Q (.int (Builtin.Int.intBits i : Nat)) s1 := by
  unfold gBits
  rw [ew_bind]
  apply iff_of_eq
  congr 1
  funext x s1
  cases x <;> simp
@[simp] theorem ew_get1 : EW (gGet1 a b ρ s) Q ↔ EW (a ρ s) fun x s1 => isDk s1 x = true ∧ EW (b ρ s1) fun k s2 => EW (getOf x k .non s2) Q := by
  unfold gGet1
  rw [ew_bind]
  apply iff_of_eq
  congr 1
  funext x s1
  cases h : isDk s1 x <;> simp [h]
@[simp] theorem ew_get2 : EW (gGet2 a b c ρ s) Q ↔ EW (a ρ s) fun x s1 => isDk s1 x = true ∧ EW (b ρ s1) fun k s2 => EW (c ρ s2) fun y s3 => EW (getOf x k y s3) Q := by
  unfold gGet2
  rw [ew_bind]
  apply iff_of_eq
  congr 1
  funext x s1
  cases h : isDk s1 x <;> simp [h]
@[simp] theorem ew_fld {cs : List Str} {f : Str} : EW (gFld cs f a ρ s) Q ↔ EW (a ρ s) fun x s1 => ∃ c fs d, ins? s1 x = some (c, fs) ∧ c ∈ cs ∧ fldD fs f = some d ∧ Q d s1 := by
  unfold gFld
  rw [ew_bind]
  apply iff_of_eq
  congr 1
  funext x s1
  cases h : ins? s1 x with
  | none => simp
  | some q =>
    obtain ⟨c, fs⟩ := q
    by_cases hc : c ∈ cs
    · cases h2 : fldD fs f with
      | none => simp [hc, h2]
      | some d =>
        simp only [decide_eq_true hc, if_true, h2, ew_ok]
        apply propext
        constructor
        · exact fun q => ⟨c, fs, d, rfl, hc, h2, q⟩
        · rintro ⟨c', fs', d', e1, _, e2, q⟩
          cases e1
          rw [h2] at e2
          cases e2
          exact q
    · simp [hc]
@[simp] theorem ew_meth {m : Str} {tab : List (Str × Fn)} : EW (gMeth m tab a gl ρ s) Q ↔ EW (a ρ s) fun x s1 => MW m tab x s1 fun fn => EW (gl ρ s1) fun l s2 => EW (fn (x :: l) s2) Q := by
  unfold gMeth
  rw [ew_bind]
  apply iff_of_eq
  congr 1
  funext x s1
  unfold MW
  cases h : ins? s1 x with
  | none => simp
  | some q =>
    obtain ⟨c, fs⟩ := q
    cases h1 : tab.find? (fun q => decide (q.1 = c)) with
    | none => simp [h1]
    | some r =>
      obtain ⟨c', fn⟩ := r
      have hc : c' = c := by
        have := List.find?_some h1
        simpa using this
      subst hc
      cases h2 : fldD fs m with
      | some d => simp [h1, h2]
      | none =>
        simp only [h1, h2, decide_true, if_true, ew_bind]
        apply propext
        constructor
        · exact fun q => ⟨c', fs, fn, rfl, h1, h2, q⟩
        · rintro ⟨c2, fs2, fn2, e1, e2, _, q⟩
          cases e1
          rw [h1] at e2
          cases e2
          exact q
/-! statements -/
@[simp] theorem sw_skip : SW (gSkip ρ s) N R B C ↔ N ρ s := Iff.rfl
@[simp] theorem sw_seq : SW (gSeq gs gr ρ s) N R B C ↔ SW (gs ρ s) (fun ρ s => SW (gr ρ s) N R B C) R B C := by simp [gSeq]
@[simp] theorem sw_break : SW (gBreak ρ s) N R B C ↔ B ρ s := Iff.rfl
@[simp] theorem sw_cont : SW (gCont ρ s) N R B C ↔ C ρ s := Iff.rfl
@[simp] theorem sw_expr : SW (gExpr a ρ s) N R B C ↔ EW (a ρ s) fun _ s1 => N ρ s1 := by simp [gExpr]
@[simp] theorem sw_ret : SW (gRet a ρ s) N R B C ↔ EW (a ρ s) R := by simp [gRet]
@[simp] theorem sw_retN : SW (gRetN ρ s) N R B C ↔ R .non s := Iff.rfl
@[simp] theorem sw_if : SW (gIf t gs gr ρ s) N R B C ↔ EW (t ρ s) fun x s1 => Br x (SW (gs ρ s1) N R B C) (SW (gr ρ s1) N R B C) := by
  unfold gIf
  rw [sw_st]
  apply iff_of_eq
  congr 1
  funext x s1
  cases x <;> simp
@[simp] theorem sw_set {i : Nat} : SW (gSet i a ρ s) N R B C ↔ EW (a ρ s) fun x s1 => N (ρ.set i (some x)) s1 := by simp [gSet]
@[simp] theorem sw_asg {g : FG} : SW (gAsg a g ρ s) N R B C ↔ EW (a ρ s) fun x s1 => WO (g x ρ s1) fun w => N w.1 w.2 := by
  unfold gAsg
  rw [sw_st]
  apply iff_of_eq
  congr 1
  funext x s1
  cases h : g x ρ s1 <;> simp [h]
@[simp] theorem sw_par {i j : Nat} : SW (gPar i j gl ρ s) N R B C ↔ EW (gl ρ s) fun l s1 => ∃ x y, l = [x, y] ∧ N ((ρ.set i (some x)).set j (some y)) s1 := by
  unfold gPar
  rw [sw_st]
  apply iff_of_eq
  congr 1
  funext l s1
  match l with
  | [] => simp
  | [x] => simp
  | [x, y] =>
    apply propext
    constructor
    · exact fun q => ⟨x, y, rfl, q⟩
    · rintro ⟨x', y', e, q⟩
      cases e
      exact q
  | x :: y :: z :: r => simp
/-- o[i] = e -/
def putO (x k v : D) (s : Sto) : Option Sto := match setLst x k v s with
  | some s' => some s'
  | none => setDk x k v s
@[simp] theorem sw_put : SW (gPut o i a ρ s) N R B C ↔ EW (a ρ s) fun v s1 => EW (o ρ s1) fun x s2 => EW (i ρ s2) fun k s3 => WO (putO x k v s3) fun s' => N ρ s' := by
  unfold gPut
  rw [sw_st]
  apply iff_of_eq
  congr 1
  funext v s1
  rw [sw_st]
  congr 1
  funext x s2
  rw [sw_st]
  congr 1
  funext k s3
  unfold putO
  cases h : setLst x k v s3 with
  | some s' => simp
  | none => cases h2 : setDk x k v s3 <;> simp
@[simp] theorem sw_aug {i : Nat} : SW (gAug i op a ρ s) N R B C ↔ WO ρ[i]? fun o => WO o fun d => EW (a ρ s) fun y s1 => EW (op d y s1) fun z s2 => N (ρ.set i (some z)) s2 := by
  unfold gAug
  cases h : ρ[i]? with
  | none => simp
  | some w =>
    cases w with
    | none => simp
    | some d =>
      simp only [sw_st, wo_some]
      constructor
      · intro q
        refine q.mono fun y s1 z => ?_
        cases e : op d y s1 <;> simp [e] at z ⊢ <;> exact z
      · intro q
        refine q.mono fun y s1 z => ?_
        cases e : op d y s1 <;> simp [e] at z ⊢ <;> exact z
/-! ### loops -/
/-- for: I i holds ahead of turn i; at its end N is wanted -/
theorem for_wp {it : IT} {g : FG} {b : GS} (len : Nat) (I : Nat → En → Sto → Prop)
    (step : ∀ i ρ s, i < len → I i ρ s → ∃ d, it i s = some (some d) ∧ ∃ w, g d ρ s = some w ∧ SW (b w.1 w.2) (I (i + 1)) R N (I (i + 1)))
    (stop : ∀ ρ s, I len ρ s → it len s = some none ∧ N ρ s) : ∀ (n i : Nat) (ρ : En) (s : Sto), i ≤ len → len - i < n → I i ρ s → SW (forG it g b n i ρ s) N R B C
  | 0, i, ρ, s, _, h, _ => absurd h (Nat.not_lt_zero _)
  | n + 1, i, ρ, s, hi, hn, h => by
    unfold forG
    by_cases e : i = len
    · subst e
      obtain ⟨h1, h2⟩ := stop ρ s h
      rw [h1]
      exact h2
    · have hlt : i < len := Nat.lt_of_le_of_ne hi e
      obtain ⟨d, h1, w, h2, h3⟩ := step i ρ s hlt h
      obtain ⟨ρ1, s1⟩ := w
      simp only [h1, h2]
      cases z : b ρ1 s1 with
      | nx ρ' s' =>
        rw [z] at h3
        exact for_wp len I step stop n (i + 1) ρ' s' hlt (by omega) h3
      | ct ρ' s' =>
        rw [z] at h3
        exact for_wp len I step stop n (i + 1) ρ' s' hlt (by omega) h3
      | bk ρ' s' => rw [z] at h3; exact h3
      | rt d s' => rw [z] at h3; exact h3
      | err e ρ' s' => rw [z] at h3; exact h3.elim
      | bad => rw [z] at h3; exact h3.elim
@[simp] theorem sw_for {fi : FI} {g : FG} {b : GS} : SW (gFor fi g b ρ s) N R B C ↔ EW (fi ρ s) fun it s1 => SW (forG it g b lots 0 ρ s1) N R B C := by simp [gFor]
theorem lots_ok {n : Nat} (h : n ≤ line) (i : Nat) : n - i < lots := by
  unfold lots
  unfold line at h
  omega
/-- a comprehension: I i acc s: acc is made so far, s is the store but for the new list -/
theorem lc_wp {it : IT} {t : CT} {tt : GT} {te : GE} {n : Nat} {ρ : En} {P : Sto → Prop} (len : Nat) (I : Nat → List D → Sto → Prop)
    (step : ∀ i acc s, i < len → lst? s n = some acc → I i acc s → ∃ d, it i s = some (some d) ∧ ∃ ρ1, t.put d ρ s = some ρ1 ∧ EW (tt ρ1 s) fun x s1 => (x = true → EW (te ρ1 s1) fun y s2 => lst? s2 n = some acc ∧ acc.length < line ∧ I (i + 1) (acc ++ [y]) (s2.set n (.lst (acc ++ [y])))) ∧ (x = false → lst? s1 n = some acc ∧ I (i + 1) acc s1))
    (stop : ∀ acc s, lst? s n = some acc → I len acc s → it len s = some none ∧ P s) : ∀ (m i : Nat) (acc : List D) (s : Sto), i ≤ len → len - i < m → lst? s n = some acc → I i acc s → ∃ s', lcG it t tt te n ρ m i s = some s' ∧ P s'
  | 0, i, acc, s, _, h, _, _ => absurd h (Nat.not_lt_zero _)
  | m + 1, i, acc, s, hi, hm, hs, h => by
    unfold lcG
    by_cases e : i = len
    · subst e
      obtain ⟨h1, h2⟩ := stop acc s hs h
      rw [h1]
      exact ⟨s, rfl, h2⟩
    · have hlt : i < len := Nat.lt_of_le_of_ne hi e
      obtain ⟨d, h1, ρ1, h2, h3⟩ := step i acc s hlt hs h
      obtain ⟨x, s1, h4, h5⟩ := h3.ex
      simp only [h1, h2, h4]
      cases x with
      | false =>
        obtain ⟨h6, h7⟩ := h5.2 rfl
        exact lc_wp len I step stop m (i + 1) acc s1 hlt (by omega) h6 h7
      | true =>
        obtain ⟨y, s2, h6, h7, h8, h9⟩ := (h5.1 rfl).ex
        simp only [h6, h7, decide_eq_true h8, if_true]
        have hl : n < s2.length := by
          unfold lst? at h7
          cases z : s2[n]? with
          | none => rw [z] at h7; cases h7
          | some o => exact (List.getElem?_eq_some_iff.mp z).1
        refine lc_wp len I step stop m (i + 1) (acc ++ [y]) _ hlt (by omega) ?_ h9
        unfold lst?
        rw [List.getElem?_set_self hl]
@[simp] theorem ew_lc {fi : FI} {t : CT} {tt : GT} {te : GE} {vs : List Nat} : EW (gLc fi t tt te vs ρ s) Q ↔ EW (fi ρ s) fun it s1 => ∃ s2, lcG it t tt te s1.length (wipeD ρ vs) lots 0 (s1 ++ [.lst []]) = some s2 ∧ Q (.ref s1.length) s2 := by
  unfold gLc
  rw [ew_bind]
  apply iff_of_eq
  congr 1
  funext it s1
  cases h : lcG it t tt te s1.length (wipeD ρ vs) lots 0 (s1 ++ [.lst []]) <;> simp [h]
/-! what is walked -/
/-- what is walked is there -/
def WI (x : D) (s : Sto) (P : IT → Prop) : Prop := (∃ z, x = .str z ∧ P (itTxt z)) ∨ (∃ l, items? s x = some l ∧ P (itSeq x))
@[simp] theorem wi_str {z : Str} {P : IT → Prop} : WI (.str z) s P ↔ P (itTxt z) := by simp [WI, items?]
@[simp] theorem wi_tup {l : List D} {P : IT → Prop} : WI (.tup l) s P ↔ P (itSeq (.tup l)) := by simp [WI, items?]
theorem wi_ref {n : Nat} {l : List D} {P : IT → Prop} (h : seq? s n = some l) : WI (.ref n) s P ↔ P (itSeq (.ref n)) := by
  have e : items? s (.ref n) = some l := h
  simp [WI, e]
@[simp] theorem ew_itA {Q : IT → Sto → Prop} : EW (gItA a ρ s) Q ↔ EW (a ρ s) fun x s1 => WI x s1 fun it => Q it s1 := by
  unfold gItA
  rw [ew_bind]
  apply iff_of_eq
  congr 1
  funext x s1
  cases x with
  | str z => simp
  | tup l => simp [items?]
  | ref n => cases h : items? s1 (.ref n) <;> simp [WI, h]
  | non => simp [WI, items?]
  | bl b => simp [WI, items?]
  | int i => simp [WI, items?]
  | hot b dn => simp [WI, items?]
@[simp] theorem ew_rng1 {Q : IT → Sto → Prop} : EW (gRng1 a ρ s) Q ↔ EW (a ρ s) fun x s1 => ∃ j, x = .int j ∧ rngOk j = true ∧ Q (itRng 0 j.toNat) s1 := by
  unfold gRng1
  rw [ew_bind]
  apply iff_of_eq
  congr 1
  funext x s1
  cases x with
  | int j => cases h : rngOk j <;> simp [h]
  | _ => simp
@[simp] theorem ew_rng2 {Q : IT → Sto → Prop} : EW (gRng2 a b ρ s) Q ↔ EW (a ρ s) fun x s1 => EW (b ρ s1) fun y s2 => ∃ i j, x = .int i ∧ y = .int j ∧ rngOk i = true ∧ rngOk j = true ∧ Q (itRng i (j - i).toNat) s2 := by
  unfold gRng2
  rw [ew_bind]
  apply iff_of_eq
  congr 1
  funext x s1
  rw [ew_bind]
  congr 1
  funext y s2
  cases x with
  | int i =>
    cases y with
    | int j => cases h : rngOk i <;> cases h2 : rngOk j <;> simp [h, h2]
    | _ => simp
  | _ => simp
@[simp] theorem ew_rev {Q : IT → Sto → Prop} : EW (gRev a ρ s) Q ↔ EW (a ρ s) fun x s1 => ∃ n l, x = .ref n ∧ seq? s1 n = some l ∧ Q (itRev n l.length) s1 := by
  unfold gRev
  rw [ew_bind]
  apply iff_of_eq
  congr 1
  funext x s1
  cases x with
  | ref n => cases h : seq? s1 n <;> simp [h]
  | _ => simp
/-! ### operations on known kinds of values -/
variable {x y : Int} {z z' : Str} {p q : Bool} {d e : D} {l l' : List D} {m n : Nat}
@[simp] theorem add_ii : addD (.int x) (.int y) s = .ok (.int (x + y)) s := rfl
@[simp] theorem sub_ii : subD (.int x) (.int y) s = .ok (.int (x - y)) s := rfl
@[simp] theorem iadd_ii : iaddD (.int x) (.int y) s = .ok (.int (x + y)) s := rfl
theorem mul_ok (h : cMul x y = true) : mulD (.int x) (.int y) s = .ok (.int (x * y)) s := by
  show ((if cMul x y = true then Res.ok (D.int (x * y)) s else Res.bad).or (Res.bad.or Res.bad)) = _
  rw [if_pos h]
  rfl
@[simp] theorem mul_r (h1 : -18446744073709551616 < y) (h2 : y < 18446744073709551616) : mulD (.int x) (.int y) s = .ok (.int (x * y)) s := mul_ok (by unfold cMul; simp [h1, h2])
@[simp] theorem mul_l (h1 : -18446744073709551616 < x) (h2 : x < 18446744073709551616) : mulD (.int x) (.int y) s = .ok (.int (x * y)) s := mul_ok (by unfold cMul; simp [h1, h2])
theorem fdiv_ii : fdivD (.int x) (.int y) s = if 0 < y ∧ y.natAbs.log2 < 9000 then .ok (.int (x / y)) s else .bad := by
  show (if (decide (0 < y) && decide (y.natAbs.log2 < 9000)) = true then _ else _) = _
  simp
theorem log2_lt {n k : Nat} (hk : 0 < k) (h : n < 2 ^ k) : n.log2 < k := PySem.Flt.log2_lt_of hk h
@[simp] theorem fdiv_ok (h0 : 0 < y) (h1 : y < 114813069527425452423283320117768198402231770208869520047764273682576626139237031385665948631650626991844596463898746277344711896086305533142593135616665318539129989145312280000688779148240044871428926990063486244781615463646388363947317026040466353970904996558162398808944629605623311649536164221970332681344168908984458505602379484807914058900934776500429002716706625830522008132236281291761267883317206598995396418127021779858404042159853183251540889433902091920554957783589672039160081957216630582755380425583726015528348786419432054508915275783882625175435528800822842770817965453762184851149029376) : fdivD (.int x) (.int y) s = .ok (.int (x / y)) s := by
  rw [fdiv_ii, if_pos]
  refine ⟨h0, Nat.lt_trans (log2_lt (k := 2000) (by decide) ?_) (by decide)⟩
  have e : (2 : Nat) ^ 2000 = 114813069527425452423283320117768198402231770208869520047764273682576626139237031385665948631650626991844596463898746277344711896086305533142593135616665318539129989145312280000688779148240044871428926990063486244781615463646388363947317026040466353970904996558162398808944629605623311649536164221970332681344168908984458505602379484807914058900934776500429002716706625830522008132236281291761267883317206598995396418127021779858404042159853183251540889433902091920554957783589672039160081957216630582755380425583726015528348786419432054508915275783882625175435528800822842770817965453762184851149029376 := by decide +kernel
  rw [e]
  omega
@[simp] theorem mod_ok (h0 : 0 < y) : modD (.int x) (.int y) s = .ok (.int (x % y)) s := by
  show (if decide (0 < y) = true then _ else _) = _
  simp [h0]
theorem pow_ii : powD (.int x) (.int y) s = if cPow x y = true then .ok (.int (x ^ y.toNat)) s else .bad := rfl
theorem shl_ii : shlD (.int x) (.int y) s = if cPow x y = true then .ok (.int (x * 2 ^ y.toNat)) s else .bad := rfl
@[simp] theorem pow_ok (h0 : 0 ≤ y) (h1 : y ≤ 1000000) (h2 : x.natAbs < 18446744073709551616) : powD (.int x) (.int y) s = .ok (.int (x ^ y.toNat)) s := by
  rw [pow_ii, if_pos]
  unfold cPow
  simp [h0, h1, h2]
@[simp] theorem shl_ok (h0 : 0 ≤ y) (h1 : y ≤ 1000000) (h2 : x.natAbs < 18446744073709551616) : shlD (.int x) (.int y) s = .ok (.int (x * 2 ^ y.toNat)) s := by
  rw [shl_ii, if_pos]
  unfold cPow
  simp [h0, h1, h2]
@[simp] theorem shr_ok (h0 : 0 ≤ y) : shrD (.int x) (.int y) s = .ok (.int (x / 2 ^ y.toNat)) s := by
  show (if decide (0 ≤ y) = true then _ else _) = _
  simp [h0]
@[simp] theorem band_ii : bandD (.int x) (.int y) s = .ok (.int (Builtin.bitAnd x y)) s := rfl
@[simp] theorem bor_ii : borD (.int x) (.int y) s = .ok (.int (Builtin.bitOr x y)) s := rfl
@[simp] theorem bxor_ii : bxorD (.int x) (.int y) s = .ok (.int (Builtin.bitXor x y)) s := rfl
@[simp] theorem neg_i : negD (.int x) s = .ok (.int (-x)) s := rfl
@[simp] theorem lt_ii : ltD (.int x) (.int y) s = .ok (.bl (decide (x < y))) s := rfl
@[simp] theorem le_ii : leD (.int x) (.int y) s = .ok (.bl (decide (x ≤ y))) s := rfl
@[simp] theorem gt_ii : gtD (.int x) (.int y) s = .ok (.bl (decide (y < x))) s := rfl
@[simp] theorem ge_ii : geD (.int x) (.int y) s = .ok (.bl (decide (y ≤ x))) s := rfl
@[simp] theorem eq_ii : eqD (.int x) (.int y) s = .ok (.bl (decide (x = y))) s := rfl
@[simp] theorem eq_ss : eqD (.str z) (.str z') s = .ok (.bl (decide (z = z'))) s := rfl
@[simp] theorem eq_bb : eqD (.bl p) (.bl q) s = .ok (.bl (decide (p = q))) s := rfl
@[simp] theorem eq_nn : eqD .non .non s = .ok (.bl true) s := rfl
@[simp] theorem eq_ni : eqD .non (.int x) s = .ok (.bl false) s := rfl
@[simp] theorem eq_in : eqD (.int x) .non s = .ok (.bl false) s := rfl
@[simp] theorem eq_is : eqD (.int x) (.str z) s = .ok (.bl false) s := rfl
@[simp] theorem eq_si : eqD (.str z) (.int x) s = .ok (.bl false) s := rfl
@[simp] theorem eq_sn : eqD (.str z) .non s = .ok (.bl false) s := rfl
@[simp] theorem eq_ns : eqD .non (.str z) s = .ok (.bl false) s := rfl
@[simp] theorem ne_ii : neD (.int x) (.int y) s = .ok (.bl (!decide (x = y))) s := rfl
@[simp] theorem ne_ss : neD (.str z) (.str z') s = .ok (.bl (!decide (z = z'))) s := rfl
@[simp] theorem ne_bb : neD (.bl p) (.bl q) s = .ok (.bl (!decide (p = q))) s := rfl
@[simp] theorem ne_nn : neD .non .non s = .ok (.bl false) s := rfl
@[simp] theorem ne_ni : neD .non (.int x) s = .ok (.bl true) s := rfl
@[simp] theorem ne_in : neD (.int x) .non s = .ok (.bl true) s := rfl
@[simp] theorem isN_ : isND d .non s = .ok (.bl (isNon d)) s := rfl
@[simp] theorem notN_ : notND d .non s = .ok (.bl (!isNon d)) s := rfl
@[simp] theorem is_bb : isND (.bl p) (.bl q) s = .ok (.bl (decide (p = q))) s := rfl
@[simp] theorem not_bb : notND (.bl p) (.bl q) s = .ok (.bl (!decide (p = q))) s := rfl
@[simp] theorem isNon_non : isNon .non = true := rfl
@[simp] theorem isNon_int : isNon (.int x) = false := rfl
@[simp] theorem isNon_str : isNon (.str z) = false := rfl
@[simp] theorem isNon_bl : isNon (.bl p) = false := rfl
@[simp] theorem isNon_tup : isNon (.tup l) = false := rfl
@[simp] theorem isNon_ref : isNon (.ref n) = false := rfl
@[simp] theorem max_ii : maxD [.int x, .int y] s = .ok (.int (if y > x then y else x)) s := rfl
@[simp] theorem min_ii : minD [.int x, .int y] s = .ok (.int (if y < x then y else x)) s := rfl
@[simp] theorem abs_i : absD [.int x] s = .ok (.int (if x < 0 then -x else x)) s := rfl
@[simp] theorem tru_bl : tru? s (.bl p) = some p := rfl
@[simp] theorem tru_non : tru? s .non = some false := rfl
@[simp] theorem tru_int : tru? s (.int x) = some (x != 0) := rfl
@[simp] theorem tru_tup : tru? s (.tup l) = some (!l.isEmpty) := rfl
theorem tru_ref (h : seq? s n = some l) : tru? s (.ref n) = some (!l.isEmpty) := by
  show (match seq? s n with
    | some l => some (!l.isEmpty)
    | none => _) = _
  rw [h]
@[simp] theorem ty_non : tyOf s .non = some .non := rfl
@[simp] theorem ty_bl : tyOf s (.bl p) = some .bool := rfl
@[simp] theorem ty_int : tyOf s (.int x) = some .int := rfl
@[simp] theorem ty_str : tyOf s (.str z) = some .str := rfl
@[simp] theorem ty_tup : tyOf s (.tup l) = some .tuple := rfl
theorem ty_lst (h : lst? s n = some l) : tyOf s (.ref n) = some .list := by
  unfold lst? at h
  show (match s[n]? with
    | some (.lst _) => some Ty.list
    | some (.scr _) => some Ty.list
    | some (.dk _) => some Ty.dict
    | _ => none) = _
  cases e : s[n]? with
  | none => rw [e] at h; cases h
  | some o => cases o <;> rw [e] at h <;> first | rfl | cases h
@[simp] theorem items_tup : items? s (.tup l) = some l := rfl
@[simp] theorem items_ref : items? s (.ref n) = seq? s n := rfl
theorem seq_of_lst (h : lst? s n = some l) : seq? s n = some l := by
  unfold lst? at h
  unfold seq?
  cases e : s[n]? with
  | none => rw [e] at h; cases h
  | some o => cases o <;> rw [e] at h <;> first | exact h | cases h
theorem ix_seq_ {x : D} {i : Int} (h : items? s x = some l) (h2 : atI l i = some d) : ixD x (.int i) s = .ok d s := by
  unfold ixD op2or ixSeq
  simp only [h, h2]
  rfl
@[simp] theorem ix_tup_ {i : Int} (h2 : atI l i = some d) : ixD (.tup l) (.int i) s = .ok d s := ix_seq_ rfl h2
theorem len_seq_ {x : D} (h : items? s x = some l) : lenD [x] s = .ok (.int (l.length : Int)) s := by
  unfold lenD opCor lenSeq
  simp only [h]
  rfl
@[simp] theorem len_tup_ : lenD [.tup l] s = .ok (.int (l.length : Int)) s := rfl
theorem add_lst_ {k : Nat} {l l' : List D} (h1 : seq? s m = some l) (h2 : seq? s k = some l') (h : l.length + l'.length ≤ line) : addD (.ref m) (.ref k) s = .ok (.ref s.length) (s ++ [.lst (l ++ l')]) := by
  unfold addD op2or addStr addLst iOp0
  simp only [h1, h2, decide_eq_true h]
  rfl
theorem append_ (h : lst? s n = some l) (h2 : l.length < line) : appendD (.ref n) [d] s = .ok .non (s.set n (.lst (l ++ [d]))) := by
  unfold appendD
  simp only [h, decide_eq_true h2, if_true]
theorem isL_ (h : seq? s n = some l) : isL s (.ref n) = true := by
  show (seq? s n).isSome = true
  rw [h]
  rfl
@[simp] theorem sl_tup_ {lo hi : Option Int} : slD (.tup l) lo hi s = .ok (.tup (cutL l lo hi)) s := rfl
theorem sl_ref_ {lo hi : Option Int} (h : seq? s n = some l) : slD (.ref n) lo hi s = .ok (.ref s.length) (s ++ [.lst (cutL l lo hi)]) := by
  unfold slD
  simp only [h]
  rfl
/-! the store -/
@[simp] theorem lst_new {ob : O} : lst? (s ++ [ob]) s.length = match ob with
    | .lst l => some l
    | _ => none := by
  unfold lst?
  rw [List.getElem?_append_right (Nat.le_refl _), Nat.sub_self]
  cases ob <;> rfl
theorem get_app {o : O} {t : Sto} (h : s[n]? = some o) : (s ++ t)[n]? = some o := by
  rw [List.getElem?_append_left (List.getElem?_eq_some_iff.mp h).1]
  exact h
theorem lst_app {t : Sto} (h : lst? s n = some l) : lst? (s ++ t) n = some l := by
  unfold lst? at h ⊢
  cases e : s[n]? with
  | none => rw [e] at h; cases h
  | some o => rw [get_app e]; rw [e] at h; exact h
theorem seq_app {t : Sto} (h : seq? s n = some l) : seq? (s ++ t) n = some l := by
  unfold seq? at h ⊢
  cases e : s[n]? with
  | none => rw [e] at h; cases h
  | some o => rw [get_app e]; rw [e] at h; exact h
theorem lst_lt (h : lst? s n = some l) : n < s.length := by
  unfold lst? at h
  cases e : s[n]? with
  | none => rw [e] at h; cases h
  | some o => exact (List.getElem?_eq_some_iff.mp e).1
@[simp] theorem ty_new : tyOf (s ++ [.lst l]) (.ref s.length) = some .list := ty_lst (l := l) (by simp)
@[simp] theorem wi_new {l : List D} {P : IT → Prop} : WI (.ref s.length) (s ++ [.lst l]) P ↔ P (itSeq (.ref s.length)) := wi_ref (l := l) (seq_of_lst (by simp))
@[simp] theorem seq_new : seq? (s ++ [.lst l]) s.length = some l := seq_of_lst (l := l) (by simp)
/-! ### more: texts of numbers, rows of whole numbers, loops over a list -/
theorem Ext.seq {t : Sto} (h : seq? s n = some l) : seq? (s ++ t) n = some l := seq_app h
/-- whole numbers all -/
def AllI (l : List D) : Prop := ∀ d ∈ l, ∃ c : Int, d = .int c
theorem AllI.of (ns : List Int) : AllI (ns.map D.int) := fun d h => by
  obtain ⟨c, _, rfl⟩ := List.mem_map.mp h
  exact ⟨c, rfl⟩
theorem AllI.cut (h : AllI l) (lo hi : Option Int) : AllI (cutL l lo hi) := fun d hd => h d (List.mem_of_mem_drop (List.mem_of_mem_take hd))
theorem AllI.app (h : AllI l) (h' : AllI l') : AllI (l ++ l') := fun d hd => (List.mem_append.mp hd).elim (h d) (h' d)
theorem AllI.nil : AllI [] := fun _ h => nomatch h
theorem AllI.cons (h : AllI l) : AllI (.int x :: l) := fun d hd => (List.mem_cons.mp hd).elim (fun e => ⟨x, e⟩) (h d)
/-- a loop over a list that stays -/
theorem for_list {j : Nat} {b : GS} (I : Nat → En → Sto → Prop) (hl : l.length ≤ line) (hI : ∀ i ρ s, I i ρ s → seq? s n = some l)
    (step : ∀ i ρ s d, l[i]? = some d → I i ρ s → SW (b (ρ.set j (some d)) s) (I (i + 1)) R N (I (i + 1)))
    (stop : ∀ ρ s, I l.length ρ s → N ρ s) (h : I 0 ρ s) : SW (forG (itSeq (.ref n)) (gName_ j) b lots 0 ρ s) N R B C := by
  refine for_wp l.length I ?_ ?_ lots 0 ρ s (Nat.zero_le _) (lots_ok hl _) h
  · intro i ρ s hi h
    have hd : l[i]? = some l[i] := List.getElem?_eq_getElem hi
    refine ⟨l[i], ?_, _, rfl, step i ρ s l[i] hd h⟩
    unfold itSeq
    rw [items_ref, hI i ρ s h]
    exact congrArg some hd
  · intro ρ s h
    refine ⟨?_, stop ρ s h⟩
    unfold itSeq
    rw [items_ref, hI _ ρ s h]
    exact congrArg some (List.getElem?_eq_none (Nat.le_refl _))
/-- a loop over range -/
theorem for_rng {j k : Nat} {a : Int} {b : GS} (I : Nat → En → Sto → Prop) (hl : k ≤ line)
    (step : ∀ i ρ s, i < k → I i ρ s → SW (b (ρ.set j (some (.int (a + i)))) s) (I (i + 1)) R N (I (i + 1)))
    (stop : ∀ ρ s, I k ρ s → N ρ s) (h : I 0 ρ s) : SW (forG (itRng a k) (gName_ j) b lots 0 ρ s) N R B C := by
  refine for_wp k I ?_ ?_ lots 0 ρ s (Nat.zero_le _) (lots_ok hl _) h
  · intro i ρ s hi h
    refine ⟨.int (a + i), ?_, _, rfl, step i ρ s hi h⟩
    unfold itRng
    simp [hi]
  · intro ρ s h
    refine ⟨?_, stop ρ s h⟩
    unfold itRng
    simp
end
end PD

/-! Pdn: items by number, powers of two, a script's cells: what many laws share. -/
namespace PD
open PySem L2
section
variable {β : Type} {a b c e f g : β} {l : List β} {i : Int}
theorem atI_of (h0 : 0 ≤ i) (h1 : i < l.length) : atI l i = l[i.toNat]? := by
  unfold atI ixN
  rw [if_pos h0, if_pos h1]
  rfl
theorem atI_nat {k : Nat} (h1 : k < l.length) : atI l (k : Int) = l[k]? := by
  rw [atI_of (by omega) (by omega)]
  rfl
@[simp] theorem atI_0 : atI (a :: l) 0 = some a := by
  rw [atI_of (by omega) (by simp only [List.length_cons]; omega)]
  rfl
@[simp] theorem atI_1 : atI (a :: b :: l) 1 = some b := by
  rw [atI_of (by omega) (by simp only [List.length_cons]; omega)]
  rfl
@[simp] theorem atI_2 : atI (a :: b :: c :: l) 2 = some c := by
  rw [atI_of (by omega) (by simp only [List.length_cons]; omega)]
  rfl
@[simp] theorem atI_3 : atI (a :: b :: c :: e :: l) 3 = some e := by
  rw [atI_of (by omega) (by simp only [List.length_cons]; omega)]
  rfl
@[simp] theorem atI_4 : atI (a :: b :: c :: e :: f :: l) 4 = some f := by
  rw [atI_of (by omega) (by simp only [List.length_cons]; omega)]
  rfl
@[simp] theorem atI_5 : atI (a :: b :: c :: e :: f :: g :: l) 5 = some g := by
  rw [atI_of (by omega) (by simp only [List.length_cons]; omega)]
  rfl
@[simp] theorem atI_m1 : atI (l ++ [a]) (-1) = some a := by
  unfold atI ixN
  have h : (-((l ++ [a]).length : Int)) ≤ -1 := by simp only [List.length_append, List.length_singleton]; omega
  rw [if_neg (by omega), if_pos h]
  show (l ++ [a])[(-1 + ((l ++ [a]).length : Int)).toNat]? = some a
  have e : (-1 + ((l ++ [a]).length : Int)).toNat = l.length := by simp only [List.length_append, List.length_singleton]; omega
  rw [e]
  simp
@[simp] theorem atI_m1_1 : atI [a] (-1) = some a := by rfl
@[simp] theorem atI_m1_2 : atI [a, b] (-1) = some b := by rfl
@[simp] theorem atI_m1_3 : atI [a, b, c] (-1) = some c := by rfl
end
section
variable {s : Sto} {Q : D → Sto → Prop} {l : List D} {n : Nat} {i x y : Int} {d : D} {b : Nat}
@[simp] theorem ew_ix_tup : EW (ixD (.tup l) (.int i) s) Q ↔ WO (atI l i) fun d => Q d s := by
  cases h : atI l i with
  | some d => rw [ix_tup_ h]; exact Iff.rfl
  | none =>
    unfold ixD op2or ixSeq
    simp only [items_tup, h]
    exact Iff.rfl
theorem ew_ix_ref (h : seq? s n = some l) : EW (ixD (.ref n) (.int i) s) Q ↔ WO (atI l i) fun d => Q d s := by
  cases h2 : atI l i with
  | some d => rw [ix_seq_ (l := l) (by rw [items_ref]; exact h) h2]; exact Iff.rfl
  | none =>
    unfold ixD op2or ixSeq
    simp only [items_ref, h, h2]
    constructor
    · intro q
      exfalso
      unfold ixTxt ixDk at q
      simp at q
      have : dk? s n = none := by
        unfold seq? at h
        unfold dk?
        cases e : s[n]? with
        | none => rfl
        | some o => cases o <;> rw [e] at h <;> first | rfl | cases h
      simp [this, key?] at q
      exact q
    · exact fun q => q.elim
theorem ew_len_ref (h : seq? s n = some l) : EW (lenD [.ref n] s) Q ↔ Q (.int l.length) s := by
  rw [len_seq_ (l := l) (by rw [items_ref]; exact h)]
  exact Iff.rfl
/-! powers of two -/
theorem p2_pos (b : Nat) : (0 : Int) < 2 ^ b := Int.pow_pos (by decide)
theorem p2_le {a b : Nat} (h : a ≤ b) : (2 : Int) ^ a ≤ 2 ^ b := by
  have := Nat.pow_le_pow_right (n := 2) (by decide) h
  exact_mod_cast this
theorem p2_s (b : Nat) : (2 : Int) ^ (b + 1) = 2 * 2 ^ b := by
  rw [Int.pow_succ, Int.mul_comm]
theorem shl1_ (h : b ≤ 1000000) : shlD (.int 1) (.int (b : Int)) s = .ok (.int (2 ^ b)) s := by
  rw [shl_ok (by omega) (by omega) (by decide)]
  simp
/-! a script's cells -/
def cellAt_b (c0 : Int) : GS := (gSeq (gIf (gTb (gOp (quiet ltD) (gVar 1) (gCB lenD (gCons (gVar 0) gNil)))) (gRet (gOp (quiet ixD) (gVar 0) (gVar 1))) gSkip) (gRet (gC (.int c0))))
def cellAt (ns : List Int) (c0 : Int) (k : Nat) : Int := (ns[k]?).getD c0
theorem cell_at {ns : List Int} {c0 : Int} {k : Nat} (hs : seq? s n = some (ns.map .int)) : run 2 2 (cellAt_b c0) [.ref n, .int k] s = .ok (.int (cellAt ns c0 k)) s := by
  have h : EW (run 2 2 (cellAt_b c0) [.ref n, .int k] s) fun d s' => d = .int (cellAt ns c0 k) ∧ s' = s := by
    refine (ew_run rfl).mpr ?_
    unfold cellAt_b
    simp [startD, ew_len_ref hs, ew_ix_ref hs]
    refine br_d (fun h => ?_) (fun h => ?_)
    · have hk : k < ns.length := by omega
      rw [atI_nat (by simpa using hk)]
      simp [cellAt, hk]
    · have hk : ns.length ≤ k := by omega
      simp [cellAt, hk]
  obtain ⟨d, s', e, rfl, rfl⟩ := h.ex
  exact e
theorem EW.eq {β : Type} {r : Res β} {d : β} {s : Sto} (h : EW r fun d' s' => d' = d ∧ s' = s) : r = .ok d s := by
  obtain ⟨d, s', e, rfl, rfl⟩ := h.ex
  exact e
theorem ty_seq (h : seq? s n = some l) : tyOf s (.ref n) = some .list := by
  unfold seq? at h
  show (match s[n]? with
    | some (.lst _) => some Ty.list
    | some (.scr _) => some Ty.list
    | some (.dk _) => some Ty.dict
    | _ => none) = _
  cases e : s[n]? with
  | none => rw [e] at h; cases h
  | some o => cases o <;> rw [e] at h <;> first | rfl | cases h
theorem seq_lt (h : seq? s n = some l) : n < s.length := by
  unfold seq? at h
  cases e : s[n]? with
  | none => rw [e] at h; cases h
  | some o => exact (List.getElem?_eq_some_iff.mp e).1
theorem lst_set_self {l' : List D} (h : n < s.length) : lst? (s.set n (.lst l')) n = some l' := by
  unfold lst?
  rw [List.getElem?_set_self h]
end
section
variable {n : Nat} {l : List D} {ρ : En} {s : Sto} {N B C : En → Sto → Prop} {R : D → Sto → Prop}
/-- while: m is a bound of the turns that are left -/
theorem while_ix {c : GT} {b : GS} (I : Nat → En → Sto → Prop)
    (step : ∀ m ρ s, I m ρ s → EW (c ρ s) fun x s1 => (x = true → ∃ m', m' < m ∧ SW (b ρ s1) (I m') R N (I m')) ∧ (x = false → N ρ s1)) : ∀ (n m : Nat) (ρ : En) (s : Sto), m < n → I m ρ s → SW (whileG c b n ρ s) N R B C
  | 0, m, ρ, s, h, _ => absurd h (Nat.not_lt_zero _)
  | n + 1, m, ρ, s, h, hI => by
    unfold whileG
    rw [sw_st]
    refine (step m ρ s hI).mono fun x s1 q => ?_
    cases x with
    | false => exact q.2 rfl
    | true =>
      obtain ⟨m', hm, q1⟩ := q.1 rfl
      show SW (match b ρ s1 with
        | .nx ρ' s' => whileG c b n ρ' s'
        | .ct ρ' s' => whileG c b n ρ' s'
        | .bk ρ' s' => .nx ρ' s'
        | r => r) N R B C
      cases z : b ρ s1 with
      | nx ρ' s' =>
        rw [z] at q1
        exact while_ix I step n m' ρ' s' (by omega) q1
      | ct ρ' s' =>
        rw [z] at q1
        exact while_ix I step n m' ρ' s' (by omega) q1
      | bk ρ' s' => rw [z] at q1; exact q1
      | rt d s' => rw [z] at q1; exact q1
      | err e ρ' s' => rw [z] at q1; exact q1.elim
      | bad => rw [z] at q1; exact q1.elim
end
end PD

/-! Pdp: bits of numbers from nought; stretches. -/
namespace PD
open PySem L2
theorem nat_xor_and : ∀ (a b : Nat), (a ^^^ b) + (a &&& b) = a ||| b := by
  intro a
  induction a using Nat.strongRecOn with
  | _ a ih =>
    intro b
    by_cases h : a = 0
    · subst h
      simp
    · have h1 := ih (a / 2) (by omega) (b / 2)
      have x1 : (a ^^^ b) / 2 = a / 2 ^^^ b / 2 := by simpa using Nat.xor_div_two_pow (a := a) (b := b) (n := 1)
      have x2 : (a &&& b) / 2 = a / 2 &&& b / 2 := by simpa using Nat.and_div_two_pow (a := a) (b := b) (n := 1)
      have x3 : (a ||| b) / 2 = a / 2 ||| b / 2 := by simpa using Nat.or_div_two_pow (a := a) (b := b) (n := 1)
      have y1 : (a ^^^ b) % 2 = a % 2 ^^^ b % 2 := by simpa using Nat.xor_mod_two_pow (a := a) (b := b) (n := 1)
      have y2 : (a &&& b) % 2 = a % 2 &&& b % 2 := by simpa using Nat.and_mod_two_pow (a := a) (b := b) (n := 1)
      have y3 : (a ||| b) % 2 = a % 2 ||| b % 2 := by simpa using Nat.or_mod_two_pow (a := a) (b := b) (n := 1)
      have z : (a % 2 ^^^ b % 2) + (a % 2 &&& b % 2) = a % 2 ||| b % 2 := by
        have ha : a % 2 = 0 ∨ a % 2 = 1 := by omega
        have hb : b % 2 = 0 ∨ b % 2 = 1 := by omega
        rcases ha with ha | ha <;> rcases hb with hb | hb <;> rw [ha, hb] <;> rfl
      omega
theorem band_n (a b : Nat) : Builtin.bitAnd (a : Int) (b : Int) = ((a &&& b : Nat) : Int) := by
  unfold Builtin.bitAnd
  have h1 : decide (0 ≤ (a : Int)) = true := decide_eq_true (Int.natCast_nonneg a)
  have h2 : decide (0 ≤ (b : Int)) = true := decide_eq_true (Int.natCast_nonneg b)
  simp only [h1, h2, Int.toNat_natCast]
theorem bor_n (a b : Nat) : Builtin.bitOr (a : Int) (b : Int) = ((a ||| b : Nat) : Int) := by
  unfold Builtin.bitOr Builtin.bitAnd
  have e (x : Int) : Builtin.bitNot x = -x - 1 := by
    unfold Builtin.bitNot
    omega
  have h1 : decide (0 ≤ -(a : Int) - 1) = false := decide_eq_false (by omega)
  have h2 : decide (0 ≤ -(b : Int) - 1) = false := decide_eq_false (by omega)
  simp only [e, h1, h2]
  have e1 : (-(-(a : Int) - 1) - 1).toNat = a := by omega
  have e2 : (-(-(b : Int) - 1) - 1).toNat = b := by omega
  rw [e1, e2]
  omega
theorem bxor_n (a b : Nat) : Builtin.bitXor (a : Int) (b : Int) = ((a ^^^ b : Nat) : Int) := by
  unfold Builtin.bitXor
  rw [bor_n, band_n]
  have := nat_xor_and a b
  omega
theorem intBits_n (a : Nat) : Builtin.Int.intBits (a : Int) = if a = 0 then 0 else a.log2 + 1 := by
  unfold Builtin.Int.intBits
  by_cases h : a = 0
  · subst h
    rfl
  · have : ((a : Int) == 0) = false := by simp [h]
    simp [this, h]
theorem lt_bits (a : Nat) : a < 2 ^ Builtin.Int.intBits (a : Int) := by
  rw [intBits_n]
  split
  · next h => subst h; decide
  · exact Nat.lt_log2_self
theorem bits_le {a n : Nat} (h : a < 2 ^ n) : Builtin.Int.intBits (a : Int) ≤ n := by
  rw [intBits_n]
  split
  · omega
  · next h0 => exact (Nat.log2_lt h0).mpr h
/-! pairs alike -/
section
variable {a b c d : Int} {s : Sto}
@[simp] theorem eq_tt2 : eqD (.tup [.int a, .int b]) (.tup [.int c, .int d]) s = .ok (.bl (decide (a = c ∧ b = d))) s := by
  simp [eqD, op2or, eqS, eqS?, eqG, eqG?, pyOf, optAll, SeqAt.shaped, PyData.canLay0, PyData.canLayAll0, PyData.depth, PyData.depthAll, PyData.eqv, PyData.eqvAll, Res.or]
  rfl
@[simp] theorem ne_tt2 : neD (.tup [.int a, .int b]) (.tup [.int c, .int d]) s = .ok (.bl (!decide (a = c ∧ b = d))) s := by
  simp [neD, op2or, eqS, eqS?, eqG, eqG?, pyOf, optAll, SeqAt.shaped, PyData.canLay0, PyData.canLayAll0, PyData.depth, PyData.depthAll, PyData.eqv, PyData.eqvAll, Res.or]
  rfl
end
/-! stretches -/
def St (low size : Int) : Prop := ∃ b k : Nat, b ≤ 30 ∧ k < 2 ^ (30 - b) ∧ size = ((2 ^ b : Nat) : Int) ∧ low = ((k * 2 ^ b : Nat) : Int)
theorem pw (a b : Nat) : 2 ^ a * 2 ^ b = 2 ^ (a + b) := (Nat.pow_add 2 a b).symm
theorem pw30 {b : Nat} (h : b ≤ 30) : 2 ^ (30 - b) * 2 ^ b = 1073741824 := by
  rw [pw, Nat.sub_add_cancel h]
theorem St.lt {low size : Int} (h : St low size) : 0 ≤ low ∧ 0 < size ∧ low + size ≤ 1073741824 := by
  obtain ⟨b, k, h1, h2, rfl, rfl⟩ := h
  have h3 := pw30 h1
  have h4 : 0 < 2 ^ b := Nat.pow_pos (by decide)
  have h5 : (k + 1) * 2 ^ b ≤ 2 ^ (30 - b) * 2 ^ b := Nat.mul_le_mul_right _ h2
  rw [Nat.add_mul] at h5
  omega
theorem St.next {b k : Nat} (h1 : b ≤ 30) (h : k * 2 ^ b + 2 * 2 ^ b ≤ 1073741824) : St ((k * 2 ^ b + 2 ^ b : Nat) : Int) ((2 ^ b : Nat) : Int) := by
  refine ⟨b, k + 1, h1, ?_, rfl, ?_⟩
  · rw [← pw30 h1, ← Nat.add_mul] at h
    have := Nat.le_of_mul_le_mul_right h (Nat.pow_pos (by decide))
    omega
  · rw [Nat.add_mul, Nat.one_mul]
end PD

/-! Pdq: texts, objects of own classes, empty lists. -/
namespace PD
open PySem L2
section
variable {s t : Sto} {Q : D → Sto → Prop} {l l' : List D} {n m : Nat} {i : Int} {d : D} {z z' : Str} {c : Str} {fs : List (Str × D)} {o : O}
@[simp] theorem one_len {x : Nat} : (⟨#[x]⟩ : Str).length = 1 := rfl
theorem ins_app {x : D} (h : ins? s x = some (c, fs)) : ins? (s ++ t) x = some (c, fs) := by
  cases x with
  | ref n =>
    unfold ins? at h ⊢
    dsimp only at h ⊢
    cases e : s[n]? with
    | none => rw [e] at h; cases h
    | some o => rw [get_app e]; rw [e] at h; exact h
  | _ => cases h
theorem ins_set {x : D} (h : ins? s x = some (c, fs)) (hm : x ≠ .ref m) : ins? (s.set m o) x = some (c, fs) := by
  cases x with
  | ref n =>
    have : m ≠ n := fun e => hm (by rw [e])
    unfold ins? at h ⊢
    dsimp only at h ⊢
    rw [List.getElem?_set_ne this]
    exact h
  | _ => cases h
end
/-! ### the store's end -/
section
variable {s t : Sto} {l : List D} {n : Nat} {o o' : O}
theorem seq_at (i : Nat) : seq? (s ++ t) (s.length + i) = seq? t i := by
  unfold seq?
  rw [List.getElem?_append_right (Nat.le_add_right _ _), Nat.add_sub_cancel_left]
theorem lst_at (i : Nat) : lst? (s ++ t) (s.length + i) = lst? t i := by
  unfold lst?
  rw [List.getElem?_append_right (Nat.le_add_right _ _), Nat.add_sub_cancel_left]
theorem set_at (i : Nat) : (s ++ t).set (s.length + i) o = s ++ t.set i o := by
  rw [List.set_append_right _ _ (Nat.le_add_right _ _), Nat.add_sub_cancel_left]
@[simp] theorem seq_at0 : seq? (s ++ t) s.length = seq? t 0 := seq_at 0
@[simp] theorem seq_at1 : seq? (s ++ t) (s.length + 1) = seq? t 1 := seq_at 1
@[simp] theorem seq_at2 : seq? (s ++ t) (s.length + 1 + 1) = seq? t 2 := seq_at 2
@[simp] theorem seq_at2' : seq? (s ++ t) (s.length + 2) = seq? t 2 := seq_at 2
@[simp] theorem seq_at3 : seq? (s ++ t) (s.length + 1 + 1 + 1) = seq? t 3 := seq_at 3
@[simp] theorem seq_at3' : seq? (s ++ t) (s.length + 3) = seq? t 3 := seq_at 3
@[simp] theorem seq_at4 : seq? (s ++ t) (s.length + 1 + 1 + 1 + 1) = seq? t 4 := seq_at 4
@[simp] theorem lst_at0 : lst? (s ++ t) s.length = lst? t 0 := lst_at 0
@[simp] theorem lst_at1 : lst? (s ++ t) (s.length + 1) = lst? t 1 := lst_at 1
@[simp] theorem lst_at2 : lst? (s ++ t) (s.length + 1 + 1) = lst? t 2 := lst_at 2
@[simp] theorem lst_at2' : lst? (s ++ t) (s.length + 2) = lst? t 2 := lst_at 2
@[simp] theorem lst_at3 : lst? (s ++ t) (s.length + 1 + 1 + 1) = lst? t 3 := lst_at 3
@[simp] theorem lst_at3' : lst? (s ++ t) (s.length + 3) = lst? t 3 := lst_at 3
@[simp] theorem set_at0 : (s ++ t).set s.length o = s ++ t.set 0 o := set_at 0
@[simp] theorem set_at1 : (s ++ t).set (s.length + 1) o = s ++ t.set 1 o := set_at 1
@[simp] theorem set_at2 : (s ++ t).set (s.length + 1 + 1) o = s ++ t.set 2 o := set_at 2
@[simp] theorem set_at2' : (s ++ t).set (s.length + 2) o = s ++ t.set 2 o := set_at 2
@[simp] theorem set_at3 : (s ++ t).set (s.length + 1 + 1 + 1) o = s ++ t.set 3 o := set_at 3
@[simp] theorem set_at3' : (s ++ t).set (s.length + 3) o = s ++ t.set 3 o := set_at 3
@[simp] theorem seq_c0 : seq? (.lst l :: t) 0 = some l := rfl
@[simp] theorem seq_c0' : seq? (.scr l :: t) 0 = some l := rfl
@[simp] theorem seq_cs : seq? (o :: t) (n + 1) = seq? t n := rfl
@[simp] theorem lst_c0 : lst? (.lst l :: t) 0 = some l := rfl
@[simp] theorem lst_cs : lst? (o :: t) (n + 1) = lst? t n := rfl
@[simp] theorem ty_is_self {T : Ty} : T.is T = true := by cases T <;> rfl
end
/-! ### a body cut behind its first statements -/
section
variable {ρ : En} {s : Sto} {N B C : En → Sto → Prop} {R : D → Sto → Prop} {a b c d e f g h r : GS}
theorem seq_assoc : SW (gSeq a (gSeq b c) ρ s) N R B C ↔ SW (gSeq (gSeq a b) c ρ s) N R B C := by simp only [sw_seq]
theorem sw_cut (J : En → Sto → Prop) (h1 : SW (a ρ s) J R B C) (h2 : ∀ ρ s, J ρ s → SW (r ρ s) N R B C) : SW (gSeq a r ρ s) N R B C := by
  rw [sw_seq]
  exact h1.mono h2 (fun _ _ z => z) (fun _ _ z => z) (fun _ _ z => z)
theorem sw_cut2 (J : En → Sto → Prop) (h1 : SW ((gSeq a b) ρ s) J R B C) (h2 : ∀ ρ s, J ρ s → SW (r ρ s) N R B C) : SW ((gSeq a (gSeq b r)) ρ s) N R B C := seq_assoc.mpr (sw_cut J h1 h2)
end
end PD

/-! Pdr: equality of data without objects: numbers, texts, None, tuples of these. -/
namespace PD
open PySem L2
def txtOk (z : Str) : Bool := PyData.strOk z
mutual
/-- as data -/
def toP : D → PyData
  | .non => .none
  | .bl b => .bool b
  | .int i => .int i
  | .str z => .str z
  | .tup l => .tuple (toPs l)
  | .ref _ => .none
  | .hot _ _ => .none
def toPs : List D → List PyData
  | [] => []
  | d :: r => toP d :: toPs r
end
mutual
/-- no object in it, texts that can be written, at most n tuples deep -/
def okT : Nat → D → Bool
  | _, .non => true
  | _, .bl _ => true
  | _, .int _ => true
  | _, .str z => txtOk z
  | 0, .tup _ => false
  | n + 1, .tup l => okTs n l
  | _, .ref _ => false
  | _, .hot _ _ => false
def okTs : Nat → List D → Bool
  | _, [] => true
  | n, d :: r => okT n d && okTs n r
end
theorem pyOf_okT {s : Sto} : ∀ (n : Nat), (∀ (d : D), okT n d = true → pyOf s n d = some (toP d) ∧ PyData.canLay0 (toP d) = true ∧ PyData.depth (toP d) ≤ n) ∧ ∀ (l : List D), okTs n l = true → optAll (l.map (pyOf s n)) = some (toPs l) ∧ PyData.canLayAll0 (toPs l) = true ∧ PyData.depthAll (toPs l) ≤ n := by
  have key : ∀ n : Nat, (∀ (d : D), okT n d = true → pyOf s n d = some (toP d) ∧ PyData.canLay0 (toP d) = true ∧ PyData.depth (toP d) ≤ n) → ∀ (l : List D), okTs n l = true → optAll (l.map (pyOf s n)) = some (toPs l) ∧ PyData.canLayAll0 (toPs l) = true ∧ PyData.depthAll (toPs l) ≤ n := by
    intro n h1 l
    induction l with
    | nil =>
      intro _
      refine ⟨rfl, ?_, Nat.zero_le _⟩
      rw [toPs, PyData.canLayAll0]
    | cons d r ih =>
      intro h
      rw [okTs] at h
      obtain ⟨h2, h3⟩ := Bool.and_eq_true_iff.mp h
      obtain ⟨a1, a2, a3⟩ := h1 d h2
      obtain ⟨b1, b2, b3⟩ := ih h3
      refine ⟨?_, ?_, ?_⟩
      · show optAll (pyOf s n d :: r.map (pyOf s n)) = _
        rw [a1]
        show (optAll (r.map (pyOf s n))).map (toP d :: ·) = _
        rw [b1]
        rfl
      · rw [toPs, PyData.canLayAll0, a2, b2]
        rfl
      · rw [toPs, PyData.depthAll]
        exact Nat.max_le.mpr ⟨a3, b3⟩
  intro n
  induction n with
  | zero =>
    have h0 : ∀ (d : D), okT 0 d = true → pyOf s 0 d = some (toP d) ∧ PyData.canLay0 (toP d) = true ∧ PyData.depth (toP d) ≤ 0 := by
      intro d h
      cases d with
      | tup l => cases h
      | ref m => cases h
      | hot a dn => cases h
      | str z => exact ⟨rfl, h, Nat.le_refl _⟩
      | _ => exact ⟨rfl, rfl, Nat.le_refl _⟩
    exact ⟨h0, key 0 h0⟩
  | succ n ih =>
    have h0 : ∀ (d : D), okT (n + 1) d = true → pyOf s (n + 1) d = some (toP d) ∧ PyData.canLay0 (toP d) = true ∧ PyData.depth (toP d) ≤ n + 1 := by
      intro d h
      cases d with
      | tup l =>
        obtain ⟨a1, a2, a3⟩ := ih.2 l (by rw [okT] at h; exact h)
        refine ⟨?_, ?_, ?_⟩
        · show (optAll (l.map (pyOf s n))).map PyData.tuple = _
          rw [a1]
          rfl
        · rw [toP, PyData.canLay0]
          exact a2
        · rw [toP, PyData.depth]
          omega
      | ref m => cases h
      | hot a dn => cases h
      | str z => exact ⟨rfl, h, Nat.zero_le _⟩
      | _ => exact ⟨rfl, rfl, Nat.zero_le _⟩
    exact ⟨h0, key (n + 1) h0⟩
def eqB (x y : D) : Bool := PyData.eqv (toP x) (toP y)
theorem eqD_ok {x y : D} {s : Sto} (h1 : okT 60 x = true) (h2 : okT 60 y = true) : eqD x y s = .ok (.bl (eqB x y)) s := by
  obtain ⟨a1, a2, a3⟩ := (pyOf_okT (s := s) 60).1 x h1
  obtain ⟨b1, b2, b3⟩ := (pyOf_okT (s := s) 60).1 y h2
  have e : eqG? s x y = some (eqB x y) := by
    unfold eqG?
    simp only [a1, b1]
    rw [if_pos]
    · rfl
    · unfold SeqAt.shaped
      rw [a2, b2, decide_eq_true (show (toP x).depth ≤ 64 by omega), decide_eq_true (show (toP y).depth ≤ 64 by omega)]
      rfl
  unfold eqD op2or
  cases h : eqS? x y with
  | some b =>
    have : b = eqB x y := by
      cases x <;> cases y <;> first
        | (cases h; simp [eqB, toP, PyData.eqv])
        | cases h
      all_goals exact Bool.eq_iff_iff.mpr (by simp)
    subst this
    unfold eqS
    simp only [h]
    rfl
  | none =>
    unfold eqS eqG
    simp only [h, e]
    rfl
theorem neD_ok {x y : D} {s : Sto} (h1 : okT 60 x = true) (h2 : okT 60 y = true) : neD x y s = .ok (.bl (!eqB x y)) s := by
  obtain ⟨a1, a2, a3⟩ := (pyOf_okT (s := s) 60).1 x h1
  obtain ⟨b1, b2, b3⟩ := (pyOf_okT (s := s) 60).1 y h2
  have e : eqG? s x y = some (eqB x y) := by
    unfold eqG?
    simp only [a1, b1]
    rw [if_pos]
    · rfl
    · unfold SeqAt.shaped
      rw [a2, b2, decide_eq_true (show (toP x).depth ≤ 64 by omega), decide_eq_true (show (toP y).depth ≤ 64 by omega)]
      rfl
  unfold neD op2or
  cases h : eqS? x y with
  | some b =>
    have : b = eqB x y := by
      cases x <;> cases y <;> first
        | (cases h; simp [eqB, toP, PyData.eqv])
        | cases h
      all_goals exact Bool.eq_iff_iff.mpr (by simp)
    subst this
    unfold eqS
    simp only [h]
    rfl
  | none =>
    unfold eqS eqG
    simp only [h, e]
    rfl
mutual
/-- no truth in it -/
def nbT : D → Bool
  | .bl _ => false
  | .ref _ => false
  | .hot _ _ => false
  | .tup l => nbTs l
  | _ => true
def nbTs : List D → Bool
  | [] => true
  | d :: r => nbT d && nbTs r
end
mutual
theorem eqB_iff : ∀ (x y : D), nbT x = true → nbT y = true → (PyData.eqv (toP x) (toP y) = true ↔ x = y)
  | .non, y, _, h => by cases y <;> simp_all [toP, PyData.eqv, nbT]
  | .bl _, y, h, _ => by cases h
  | .int i, y, _, h => by cases y <;> simp_all [toP, PyData.eqv, nbT]
  | .str z, y, _, h => by cases y <;> simp_all [toP, PyData.eqv, nbT]
  | .ref _, y, h, _ => by cases h
  | .hot _ _, y, h, _ => by cases h
  | .tup l, .tup l', h, h' => by
    rw [nbT] at h h'
    rw [toP, toP, PyData.eqv, eqBs_iff l l' h h']
    simp
  | .tup l, .non, _, _ => by simp [toP, PyData.eqv]
  | .tup l, .bl _, _, _ => by simp [toP, PyData.eqv]
  | .tup l, .int _, _, _ => by simp [toP, PyData.eqv]
  | .tup l, .str _, _, _ => by simp [toP, PyData.eqv]
  | .tup l, .ref _, _, h => by cases h
  | .tup l, .hot _ _, _, h => by cases h
theorem eqBs_iff : ∀ (l l' : List D), nbTs l = true → nbTs l' = true → (PyData.eqvAll (toPs l) (toPs l') = true ↔ l = l')
  | [], [], _, _ => by simp [toPs, PyData.eqvAll]
  | [], _ :: _, _, _ => by simp [toPs, PyData.eqvAll]
  | _ :: _, [], _, _ => by simp [toPs, PyData.eqvAll]
  | d :: r, d' :: r', h, h' => by
    rw [nbTs] at h h'
    obtain ⟨h1, h2⟩ := Bool.and_eq_true_iff.mp h
    obtain ⟨h3, h4⟩ := Bool.and_eq_true_iff.mp h'
    rw [toPs, toPs, PyData.eqvAll, Bool.and_eq_true_iff, eqB_iff d d' h1 h3, eqBs_iff r r' h2 h4]
    simp
end
theorem eqB_t {x y : D} (h1 : nbT x = true) (h2 : nbT y = true) : eqB x y = true ↔ x = y := eqB_iff x y h1 h2
/-! texts that can be written -/
end PD

/-! Pds: comprehensions whose items are told without a change of the store. -/
namespace PD
open PySem L2
section
variable {s : Sto} {ρ : En} {it : IT} {t : CT} {tt : GT} {te : GE} {items : List D} {f : D → D} {p : D → Bool}
theorem lc_fm (hl : items.length ≤ line) (hit : ∀ (i : Nat) (acc : List D), it i (s ++ [.lst acc]) = some items[i]?)
    (helt : ∀ (i : Nat) (d : D) (acc : List D), items[i]? = some d → ∃ ρ1, t.put d ρ (s ++ [.lst acc]) = some ρ1 ∧ tt ρ1 (s ++ [.lst acc]) = .ok (p d) (s ++ [.lst acc]) ∧ (p d = true → te ρ1 (s ++ [.lst acc]) = .ok (f d) (s ++ [.lst acc]))) :
    lcG it t tt te s.length ρ lots 0 (s ++ [.lst []]) = some (s ++ [.lst ((items.filter p).map f)]) := by
  have h := lc_wp (it := it) (t := t) (tt := tt) (te := te) (n := s.length) (ρ := ρ) (P := fun s' => s' = s ++ [.lst ((items.filter p).map f)]) items.length (fun i acc s' => s' = s ++ [.lst acc] ∧ acc = ((items.take i).filter p).map f) ?_ ?_ lots 0 [] (s ++ [.lst []]) (Nat.zero_le _) (lots_ok hl 0) (by simp) ⟨rfl, rfl⟩
  · obtain ⟨s', e, rfl⟩ := h
    exact e
  · rintro i acc s' hi hs ⟨rfl, hacc⟩
    have hd : items[i]? = some items[i] := List.getElem?_eq_getElem hi
    have htake : items.take (i + 1) = items.take i ++ [items[i]] := by rw [List.take_succ, hd]; rfl
    have hlen : acc.length ≤ i := by
      rw [hacc, List.length_map]
      have h1 := List.length_filter_le p (items.take i)
      rw [List.length_take] at h1
      omega
    obtain ⟨ρ1, h1, h2, h3⟩ := helt i items[i] acc hd
    refine ⟨items[i], by rw [hit, hd], ρ1, h1, ?_⟩
    rw [h2, ew_ok]
    refine ⟨fun hp => ?_, fun hp => ?_⟩
    · rw [h3 hp, ew_ok]
      refine ⟨by simp, by omega, ?_, ?_⟩
      · simp
      · rw [htake, List.filter_append, List.map_append, ← hacc]
        simp [hp]
    · refine ⟨by simp, rfl, ?_⟩
      rw [htake, List.filter_append, List.map_append, ← hacc]
      simp [hp]
  · rintro acc s' hs ⟨rfl, hacc⟩
    refine ⟨by rw [hit, List.getElem?_eq_none (Nat.le_refl _)], ?_⟩
    rw [hacc, List.take_length]
theorem lc_map (hl : items.length ≤ line) (hit : ∀ (i : Nat) (acc : List D), it i (s ++ [.lst acc]) = some items[i]?)
    (helt : ∀ (i : Nat) (d : D) (acc : List D), items[i]? = some d → ∃ ρ1, t.put d ρ (s ++ [.lst acc]) = some ρ1 ∧ te ρ1 (s ++ [.lst acc]) = .ok (f d) (s ++ [.lst acc])) :
    lcG it t gYes te s.length ρ lots 0 (s ++ [.lst []]) = some (s ++ [.lst (items.map f)]) := by
  have h := lc_fm (tt := gYes) (p := fun _ => true) (f := f) hl hit fun i d acc hd => by
    obtain ⟨ρ1, h1, h2⟩ := helt i d acc hd
    exact ⟨ρ1, h1, rfl, fun _ => h2⟩
  rw [List.filter_eq_self.mpr fun _ _ => rfl] at h
  exact h
/-- walks that a comprehension takes -/
theorem it_rng (n : Nat) (i : Nat) (s : Sto) : itRng 0 n i s = some ((List.range n).map fun k : Nat => D.int (k : Int))[i]? := by
  unfold itRng
  congr 1
  by_cases h : i < n
  · simp [h]
  · simp [h]
end
/-! letters -/
theorem cut_two {β : Type} {a b : β} {l : List β} : cutL (a :: b :: l) none (some 2) = [a, b] := by
  unfold cutL HT.sIx
  simp
end PD

/-! Pdt: the least stretch of two. -/
namespace PD
open PySem L2
def least_b : GS :=
  (gSeq (gSet 2 (gOp (quiet borD) (gOp (quiet borD) (gOp (quiet bxorD) (gOp (quiet ixD) (gVar 0) (gC (.int 0))) (gOp (quiet ixD) (gVar 1) (gC (.int 0)))) (gOp (quiet subD) (gOp (quiet ixD) (gVar 0) (gC (.int 1))) (gC (.int 1)))) (gOp (quiet subD) (gOp (quiet ixD) (gVar 1) (gC (.int 1))) (gC (.int 1)))))
  (gSeq (gSet 3 (gBits (gVar 2)))
  (gRet (gTup (gCons (gOp (quiet shlD) (gOp (quiet shrD) (gOp (quiet ixD) (gVar 0) (gC (.int 0))) (gVar 3)) (gVar 3)) (gCons (gOp (quiet shlD) (gC (.int 1)) (gVar 3)) gNil))))))
/-- how many bits of unlikeness -/
def unl (a sa c sc : Nat) : Nat := ((a ^^^ c) ||| (sa - 1)) ||| (sc - 1)
def bts (a sa c sc : Nat) : Nat := Builtin.Int.intBits ((unl a sa c sc : Nat) : Int)
theorem least (a sa c sc : Nat) (h1 : 0 < sa) (h2 : 0 < sc) (ha : a < 18446744073709551616) (hb : bts a sa c sc ≤ 30) (s : Sto) : run 4 2 least_b [.tup [.int (a : Int), .int (sa : Int)], .tup [.int (c : Int), .int (sc : Int)]] s = .ok (.tup [.int ((a / 2 ^ bts a sa c sc * 2 ^ bts a sa c sc : Nat) : Int), .int ((2 ^ bts a sa c sc : Nat) : Int)]) s := by
  refine EW.eq ((ew_run (p := 2) rfl).mpr ?_)
  unfold least_b
  have e1 : (sa : Int) - 1 = ((sa - 1 : Nat) : Int) := by omega
  have e2 : (sc : Int) - 1 = ((sc - 1 : Nat) : Int) := by omega
  simp [startD]
  rw [e1, e2, bxor_n, bor_n, bor_n]
  have e3 : Builtin.Int.intBits ((((a ^^^ c) ||| (sa - 1)) ||| (sc - 1) : Nat) : Int) = bts a sa c sc := rfl
  rw [e3]
  generalize bts a sa c sc = n at *
  have h3 : a / 2 ^ n ≤ a := Nat.div_le_self _ _
  have h4 : (a : Int) / 2 ^ n = ((a / 2 ^ n : Nat) : Int) := by simp
  rw [h4]
  generalize a / 2 ^ n = w at *
  rw [shl_ok (by omega) (by omega) (by omega)]
  simp
  rw [shl1_ (by omega)]
  simp
theorem unl_lt {a sa c sc n : Nat} (h : unl a sa c sc < 2 ^ n) : (a ^^^ c) < 2 ^ n ∧ sa - 1 < 2 ^ n ∧ sc - 1 < 2 ^ n := by
  unfold unl at h
  have h1 := Nat.left_le_or (n := (a ^^^ c) ||| (sa - 1)) (m := sc - 1)
  have h2 := Nat.right_le_or (m := sc - 1) (n := (a ^^^ c) ||| (sa - 1))
  have h3 := Nat.left_le_or (n := a ^^^ c) (m := sa - 1)
  have h4 := Nat.right_le_or (m := sa - 1) (n := a ^^^ c)
  omega
theorem lt_unl {a sa c sc n : Nat} (h1 : a / 2 ^ n = c / 2 ^ n) (h2 : sa ≤ 2 ^ n) (h3 : sc ≤ 2 ^ n) (h4 : 0 < sa) (h5 : 0 < sc) : unl a sa c sc < 2 ^ n := by
  unfold unl
  refine Nat.or_lt_two_pow (Nat.or_lt_two_pow ?_ (by omega)) (by omega)
  have e := Nat.xor_div_two_pow (a := a) (b := c) (n := n)
  rw [h1, Nat.xor_self] at e
  have hp : 0 < 2 ^ n := Nat.pow_pos (by decide)
  exact (Nat.div_eq_zero_iff_lt hp).mp e
theorem same_div {a c n : Nat} (h : (a ^^^ c) < 2 ^ n) : a / 2 ^ n = c / 2 ^ n := by
  have e := Nat.xor_div_two_pow (a := a) (b := c) (n := n)
  rw [Nat.div_eq_of_lt h] at e
  have := congrArg (fun x => x ^^^ (c / 2 ^ n)) e
  simp only [Nat.zero_xor, Nat.xor_assoc, Nat.xor_self, Nat.xor_zero] at this
  exact this.symm
/-- a stretch of size 2^b at a multiple of it, within the stretch of n ≥ b bits round its low end -/
theorem inside {k b n : Nat} (h : b ≤ n) : k * 2 ^ b / 2 ^ n * 2 ^ n ≤ k * 2 ^ b ∧ k * 2 ^ b + 2 ^ b ≤ k * 2 ^ b / 2 ^ n * 2 ^ n + 2 ^ n := by
  refine ⟨Nat.div_mul_le_self _ _, ?_⟩
  have e : 2 ^ n = 2 ^ (n - b) * 2 ^ b := by rw [pw, Nat.sub_add_cancel h]
  have hp : 0 < 2 ^ b := Nat.pow_pos (by decide)
  have hp2 : 0 < 2 ^ (n - b) := Nat.pow_pos (by decide)
  rw [e, Nat.mul_div_mul_right _ _ hp, ← Nat.mul_assoc, ← Nat.add_mul]
  have h1 : k + 1 ≤ k / 2 ^ (n - b) * 2 ^ (n - b) + 2 ^ (n - b) := by
    have := Nat.lt_div_mul_add (a := k) hp2
    omega
  have := Nat.mul_le_mul_right (2 ^ b) h1
  rw [Nat.add_mul, Nat.one_mul] at this
  exact this
theorem lt_bts (a sa c sc : Nat) : unl a sa c sc < 2 ^ bts a sa c sc := lt_bits _
/-- the bits at which two times part -/
def pb (a c : Nat) : Nat := Builtin.Int.intBits (((a ^^^ c : Nat) : Nat) : Int)
theorem bts_iff {a sa c sc n : Nat} (h4 : 0 < sa) (h5 : 0 < sc) : bts a sa c sc ≤ n ↔ (a / 2 ^ n = c / 2 ^ n ∧ sa ≤ 2 ^ n ∧ sc ≤ 2 ^ n) := by
  constructor
  · intro h
    have h1 := Nat.lt_of_lt_of_le (lt_bts a sa c sc) (Nat.pow_le_pow_right (n := 2) (by decide) h)
    obtain ⟨u1, u2, u3⟩ := unl_lt h1
    exact ⟨same_div u1, by omega, by omega⟩
  · rintro ⟨h1, h2, h3⟩
    exact bits_le (lt_unl h1 h2 h3 h4 h5)
theorem pow_le_iff {a b : Nat} : 2 ^ a ≤ 2 ^ b ↔ a ≤ b := Nat.pow_le_pow_iff_right (by decide)
end PD

/-! Pdu: books as functions, the one tree of a book. -/
namespace PD
open PySem L2
abbrev Bk := Nat → Option D
inductive Tr where
  | lf (a : Nat) (d : D)
  | kn (lo b : Nat) (l r : Tr)
def Tr.lo : Tr → Nat
  | .lf a _ => a
  | .kn lo _ _ _ => lo
def Tr.bt : Tr → Nat
  | .lf _ _ => 0
  | .kn _ b _ _ => b
def jn (lo b : Nat) : Option Tr → Option Tr → Option Tr
  | none, r => r
  | some l, none => some l
  | some l, some r => some (.kn lo b l r)
/-- the tree of the deeds at times from lo on, 2^b of them -/
def mk : Nat → Nat → Bk → Option Tr
  | 0, lo, f => (f lo).map (Tr.lf lo)
  | b + 1, lo, f => jn lo (b + 1) (mk b lo f) (mk b (lo + 2 ^ b) f)
def Bk.put (f : Bk) (a : Nat) (d : Option D) : Bk := fun x => if x = a then d else f x
theorem put_same (f : Bk) (a : Nat) (d : Option D) : f.put a d a = d := if_pos rfl
theorem put_ne (f : Bk) {a x : Nat} (d : Option D) (h : x ≠ a) : f.put a d x = f x := if_neg h
def Bk.res (f : Bk) (lo n : Nat) : Bk := fun x => if lo ≤ x ∧ x < lo + n then f x else none
theorem jn_none {lo b : Nat} {l r : Option Tr} : jn lo b l r = none ↔ l = none ∧ r = none := by
  cases l <;> cases r <;> simp [jn]
theorem pw2 (b : Nat) : 2 ^ (b + 1) = 2 ^ b + 2 ^ b := by
  rw [Nat.pow_succ, Nat.mul_comm, Nat.two_mul]
theorem pwp (b : Nat) : 0 < 2 ^ b := Nat.pow_pos (by decide)
theorem mk_congr {f g : Bk} : ∀ {b lo : Nat}, (∀ x, lo ≤ x → x < lo + 2 ^ b → f x = g x) → mk b lo f = mk b lo g
  | 0, lo, h => by
    unfold mk
    rw [h lo (Nat.le_refl _) (by simp)]
  | b + 1, lo, h => by
    have e := pw2 b
    unfold mk
    rw [mk_congr (f := f) (g := g) (b := b) (lo := lo) fun x h1 h2 => h x h1 (by omega), mk_congr (f := f) (g := g) (b := b) (lo := lo + 2 ^ b) fun x h1 h2 => h x (by omega) (by omega)]
theorem mk_none {f : Bk} : ∀ {b lo : Nat}, mk b lo f = none ↔ ∀ x, lo ≤ x → x < lo + 2 ^ b → f x = none
  | 0, lo => by
    unfold mk
    constructor
    · intro h x h1 h2
      have : x = lo := by simp at h2; omega
      subst this
      simpa using h
    · intro h
      rw [h lo (Nat.le_refl _) (by simp)]
      rfl
  | b + 1, lo => by
    have e := pw2 b
    unfold mk
    rw [jn_none, mk_none, mk_none]
    constructor
    · rintro ⟨h1, h2⟩ x h3 h4
      rcases Nat.lt_or_ge x (lo + 2 ^ b) with h | h
      · exact h1 x h3 h
      · exact h2 x h (by omega)
    · intro h
      exact ⟨fun x h1 h2 => h x h1 (by omega), fun x h1 h2 => h x (by omega) (by omega)⟩
/-- knots as they must be -/
def Tr.ok : Tr → Prop
  | .lf _ _ => True
  | .kn lo b l r => ∃ c, b = c + 1 ∧ lo % 2 ^ b = 0 ∧ lo ≤ l.lo ∧ l.lo + 2 ^ l.bt ≤ lo + 2 ^ c ∧ lo + 2 ^ c ≤ r.lo ∧ r.lo + 2 ^ r.bt ≤ lo + 2 ^ b ∧ l.ok ∧ r.ok
theorem mod_half {lo b : Nat} (h : lo % 2 ^ (b + 1) = 0) : lo % 2 ^ b = 0 ∧ (lo + 2 ^ b) % 2 ^ b = 0 := by
  have h1 : lo % 2 ^ b = 0 := Nat.mod_eq_zero_of_dvd (Nat.dvd_trans (Nat.pow_dvd_pow 2 (Nat.le_succ b)) (Nat.dvd_of_mod_eq_zero h))
  exact ⟨h1, by rw [Nat.add_mod_right]; exact h1⟩
structure In (t : Tr) (b lo : Nat) : Prop where
  lo_ : lo ≤ t.lo
  hi_ : t.lo + 2 ^ t.bt ≤ lo + 2 ^ b
  bt_ : t.bt ≤ b
theorem mk_in {f : Bk} : ∀ {b lo : Nat} {t : Tr}, lo % 2 ^ b = 0 → mk b lo f = some t → In t b lo ∧ t.ok ∧ t.lo % 2 ^ t.bt = 0 ∧ mk t.bt t.lo f = some t
  | 0, lo, t, _, h => by
    have h0 := h
    unfold mk at h
    cases hf : f lo with
    | none => rw [hf] at h; cases h
    | some d =>
      rw [hf] at h
      cases h
      exact ⟨⟨Nat.le_refl _, Nat.le_refl _, Nat.le_refl _⟩, trivial, by show lo % 2 ^ 0 = 0; simp; omega, h0⟩
  | b + 1, lo, t, hm, h => by
    have h0 := h
    have e := pw2 b
    obtain ⟨m1, m2⟩ := mod_half hm
    unfold mk at h
    cases hl : mk b lo f with
    | none =>
      rw [hl] at h
      obtain ⟨⟨a1, a2, a3⟩, a4, a5, a6⟩ := mk_in (f := f) (b := b) (lo := lo + 2 ^ b) m2 h
      exact ⟨⟨by omega, by omega, by omega⟩, a4, a5, a6⟩
    | some l =>
      obtain ⟨⟨a1, a2, a3⟩, a4, a5, a6⟩ := mk_in (f := f) (b := b) (lo := lo) m1 hl
      cases hr : mk b (lo + 2 ^ b) f with
      | none =>
        rw [hl, hr] at h
        cases h
        exact ⟨⟨by omega, by omega, by omega⟩, a4, a5, a6⟩
      | some r =>
        obtain ⟨⟨b1, b2, b3⟩, b4, b5, b6⟩ := mk_in (f := f) (b := b) (lo := lo + 2 ^ b) m2 hr
        rw [hl, hr] at h
        cases h
        exact ⟨⟨Nat.le_refl _, Nat.le_refl _, Nat.le_refl _⟩, ⟨b, rfl, hm, a1, a2, b1, by omega, a4, b4⟩, hm, h0⟩
theorem mk_one {f : Bk} : ∀ {b lo a : Nat} {d : D}, lo ≤ a → a < lo + 2 ^ b → (∀ x, lo ≤ x → x < lo + 2 ^ b → x ≠ a → f x = none) → f a = some d → mk b lo f = some (.lf a d)
  | 0, lo, a, d, h1, h2, h, hd => by
    have : a = lo := by simp at h2; omega
    subst this
    unfold mk
    rw [hd]
    rfl
  | b + 1, lo, a, d, h1, h2, h, hd => by
    have e := pw2 b
    unfold mk
    rcases Nat.lt_or_ge a (lo + 2 ^ b) with hh | hh
    · rw [mk_one (b := b) h1 hh (fun x a1 a2 a3 => h x a1 (by omega) a3) hd, (mk_none (b := b) (lo := lo + 2 ^ b)).mpr fun x a1 a2 => h x (by omega) (by omega) (by omega)]
      rfl
    · rw [mk_one (b := b) hh (by omega) (fun x a1 a2 a3 => h x (by omega) (by omega) a3) hd, (mk_none (b := b) (lo := lo)).mpr fun x a1 a2 => h x (by omega) (by omega) (by omega)]
      rfl
/-- two stretches, the one in the earlier half, the other in the later one -/
theorem bts_two {lo b a i c j : Nat} (hm : lo % 2 ^ (b + 1) = 0) (h1 : lo ≤ a) (h2 : a + 2 ^ i ≤ lo + 2 ^ b) (h3 : lo + 2 ^ b ≤ c) (h4 : c + 2 ^ j ≤ lo + 2 ^ (b + 1)) : bts a (2 ^ i) c (2 ^ j) = b + 1 ∧ a / 2 ^ (b + 1) * 2 ^ (b + 1) = lo := by
  have e := pw2 b
  have pi := pwp i
  have pj := pwp j
  have pb := pwp b
  have ea : a / 2 ^ (b + 1) = lo / 2 ^ (b + 1) := by
    obtain ⟨q, hq⟩ := Nat.dvd_of_mod_eq_zero hm
    rw [Nat.mul_comm] at hq
    rw [Nat.div_eq_of_lt_le (k := q) (by omega) (by rw [Nat.add_mul]; omega), hq, Nat.mul_div_cancel _ (pwp _)]
  have ec : c / 2 ^ (b + 1) = lo / 2 ^ (b + 1) := by
    obtain ⟨q, hq⟩ := Nat.dvd_of_mod_eq_zero hm
    rw [Nat.mul_comm] at hq
    rw [Nat.div_eq_of_lt_le (k := q) (by omega) (by rw [Nat.add_mul]; omega), hq, Nat.mul_div_cancel _ (pwp _)]
  refine ⟨?_, by rw [ea]; exact Nat.div_mul_cancel (Nat.dvd_of_mod_eq_zero hm)⟩
  have hle : bts a (2 ^ i) c (2 ^ j) ≤ b + 1 := (bts_iff (pwp _) (pwp _)).mpr ⟨by rw [ea, ec], by omega, by omega⟩
  have hge : ¬ bts a (2 ^ i) c (2 ^ j) ≤ b := by
    intro h
    obtain ⟨g1, g2, g3⟩ := (bts_iff (pwp _) (pwp _)).mp h
    obtain ⟨q, hq⟩ := Nat.dvd_of_mod_eq_zero hm
    have hq2 : lo = (2 * q) * 2 ^ b := by rw [hq, e]; rw [Nat.add_mul, Nat.mul_comm 2 q, Nat.mul_assoc, Nat.two_mul, Nat.mul_add, Nat.mul_comm q]
    rw [Nat.div_eq_of_lt_le (k := 2 * q) (by omega) (by rw [Nat.add_mul]; omega), Nat.div_eq_of_lt_le (k := 2 * q + 1) (by rw [Nat.add_mul]; omega) (by rw [Nat.add_mul, Nat.add_mul]; omega)] at g1
    omega
  omega
/-! totals, data -/
structure KI where
  lone : Nat → D → D
  joined : D → D → D
def Tr.tot (ki : KI) : Tr → D
  | .lf a d => ki.lone a d
  | .kn _ _ l r => ki.joined (l.tot ki) (r.tot ki)
def Tr.dt (ki : KI) : Tr → D
  | .lf a d => .tup [.int (a : Int), .int ((2 ^ 0 : Nat) : Int), ki.lone a d, d]
  | .kn lo b l r => .tup [.int (lo : Int), .int ((2 ^ b : Nat) : Int), ki.joined (l.tot ki) (r.tot ki), l.dt ki, r.dt ki]
def Tr.rest (ki : KI) : Tr → List D
  | .lf a d => [d]
  | .kn lo b l r => [l.dt ki, r.dt ki]
theorem Tr.form (ki : KI) (t : Tr) : t.dt ki = .tup (.int (t.lo : Int) :: .int ((2 ^ t.bt : Nat) : Int) :: t.tot ki :: t.rest ki) := by
  cases t <;> rfl
def oD (ki : KI) : Option Tr → D
  | none => .non
  | some t => t.dt ki
@[simp] theorem oD_none (ki : KI) : oD ki none = .non := rfl
@[simp] theorem oD_some (ki : KI) (t : Tr) : oD ki (some t) = t.dt ki := rfl
/-! rows -/
def Tr.row : Tr → List (Nat × D)
  | .lf a d => [(a, d)]
  | .kn _ _ l r => l.row ++ r.row
def oRow : Option Tr → List (Nat × D)
  | none => []
  | some t => t.row
def rowB : Nat → Nat → Bk → List (Nat × D)
  | 0, lo, f => match f lo with
    | none => []
    | some d => [(lo, d)]
  | b + 1, lo, f => rowB b lo f ++ rowB b (lo + 2 ^ b) f
theorem mk_row {f : Bk} : ∀ (b lo : Nat), oRow (mk b lo f) = rowB b lo f
  | 0, lo => by
    unfold mk rowB
    cases f lo <;> rfl
  | b + 1, lo => by
    unfold mk rowB
    rw [← mk_row b lo, ← mk_row b (lo + 2 ^ b)]
    cases mk b lo f with
    | none => cases mk b (lo + 2 ^ b) f <;> rfl
    | some l =>
      cases mk b (lo + 2 ^ b) f with
      | none => exact (List.append_nil _).symm
      | some r => rfl
theorem row_mem {f : Bk} : ∀ {b lo x : Nat} {d : D}, (x, d) ∈ rowB b lo f ↔ lo ≤ x ∧ x < lo + 2 ^ b ∧ f x = some d
  | 0, lo, x, d => by
    unfold rowB
    constructor
    · intro h
      cases hf : f lo with
      | none => rw [hf] at h; cases h
      | some e =>
        rw [hf] at h
        cases List.mem_singleton.mp h
        exact ⟨Nat.le_refl _, by simp, hf⟩
    · rintro ⟨h1, h2, h3⟩
      have : x = lo := by simp at h2; omega
      subst this
      rw [h3]
      exact List.mem_singleton.mpr rfl
  | b + 1, lo, x, d => by
    have e := pw2 b
    unfold rowB
    rw [List.mem_append, row_mem, row_mem]
    constructor
    · rintro (⟨h1, h2, h3⟩ | ⟨h1, h2, h3⟩)
      · exact ⟨h1, by omega, h3⟩
      · exact ⟨by omega, by omega, h3⟩
    · rintro ⟨h1, h2, h3⟩
      rcases Nat.lt_or_ge x (lo + 2 ^ b) with h | h
      · exact .inl ⟨h1, h, h3⟩
      · exact .inr ⟨h, by omega, h3⟩
def Asc (l : List (Nat × D)) : Prop := l.Pairwise fun p q => p.1 < q.1
theorem row_asc {f : Bk} : ∀ (b lo : Nat), Asc (rowB b lo f)
  | 0, lo => by
    unfold rowB
    cases f lo with
    | none => exact .nil
    | some d => exact List.pairwise_singleton _ _
  | b + 1, lo => by
    unfold rowB
    refine List.pairwise_append.mpr ⟨row_asc b lo, row_asc b (lo + 2 ^ b), ?_⟩
    rintro ⟨x, d⟩ hx ⟨y, e⟩ hy
    have h1 := row_mem.mp hx
    have h2 := row_mem.mp hy
    exact Nat.lt_of_lt_of_le h1.2.1 h2.1
/-- a book with less: the tree below the same knot -/
theorem mk_sub {f g : Bk} (hg : ∀ x, g x = f x ∨ g x = none) : ∀ {b lo : Nat} {t : Tr}, lo % 2 ^ b = 0 → mk b lo f = some t → mk b lo g = mk t.bt t.lo g
  | 0, lo, t, hm, h => by
    obtain ⟨⟨a1, a2, a3⟩, _⟩ := mk_in hm h
    have e1 : t.bt = 0 := by omega
    have e2 : t.lo = lo := by rw [e1] at a2; omega
    rw [e1, e2]
  | b + 1, lo, t, hm, h => by
    obtain ⟨m1, m2⟩ := mod_half hm
    have e : mk (b + 1) lo f = jn lo (b + 1) (mk b lo f) (mk b (lo + 2 ^ b) f) := rfl
    have e' : mk (b + 1) lo g = jn lo (b + 1) (mk b lo g) (mk b (lo + 2 ^ b) g) := rfl
    rw [e] at h
    have zero : ∀ {lo : Nat}, mk b lo f = none → mk b lo g = none := fun z => mk_none.mpr fun x h1 h2 => (hg x).elim (fun q => q.trans (mk_none.mp z x h1 h2)) id
    cases hl : mk b lo f with
    | none =>
      rw [hl] at h
      rw [e', zero hl]
      exact mk_sub hg m2 h
    | some l =>
      cases hr : mk b (lo + 2 ^ b) f with
      | none =>
        rw [hl, hr] at h
        cases h
        rw [e', zero hr, ← mk_sub hg m1 hl]
        cases mk b lo g <;> rfl
      | some r =>
        rw [hl, hr] at h
        cases h
        rfl
theorem kn_inv {f : Bk} {b lo lo' b' : Nat} {l r : Tr} (hm : lo % 2 ^ b = 0) (h : mk b lo f = some (.kn lo' b' l r)) (hb : b' = b) : lo' = lo ∧ ∃ c, b = c + 1 ∧ mk c lo f = some l ∧ mk c (lo + 2 ^ c) f = some r := by
  cases b with
  | zero =>
    unfold mk at h
    cases hf : f lo with
    | none => rw [hf] at h; cases h
    | some d => rw [hf] at h; cases h
  | succ b =>
    obtain ⟨m1, m2⟩ := mod_half hm
    have e : mk (b + 1) lo f = jn lo (b + 1) (mk b lo f) (mk b (lo + 2 ^ b) f) := rfl
    rw [e] at h
    cases hl : mk b lo f with
    | none =>
      rw [hl] at h
      obtain ⟨⟨a1, a2, a3⟩, _⟩ := mk_in m2 h
      have : b' ≤ b := a3
      omega
    | some l1 =>
      cases hr : mk b (lo + 2 ^ b) f with
      | none =>
        rw [hl, hr] at h
        cases h
        obtain ⟨⟨a1, a2, a3⟩, _⟩ := mk_in m1 hl
        have : b' ≤ b := a3
        omega
      | some r1 =>
        rw [hl, hr] at h
        cases h
        exact ⟨rfl, b, rfl, hl, hr⟩
/-- two stretches at multiples of their sizes -/
theorem nest {a i c j : Nat} (ha : a % 2 ^ i = 0) (hc : c % 2 ^ j = 0) (h : i ≤ j) : (c ≤ a ∧ a + 2 ^ i ≤ c + 2 ^ j) ∨ a + 2 ^ i ≤ c ∨ c + 2 ^ j ≤ a := by
  obtain ⟨p, hp⟩ := Nat.dvd_of_mod_eq_zero ha
  obtain ⟨q, hq⟩ := Nat.dvd_of_mod_eq_zero hc
  have e : 2 ^ j = 2 ^ i * 2 ^ (j - i) := by rw [← Nat.pow_add]; congr 1; omega
  rw [e, Nat.mul_assoc] at hq
  have e2 : c + 2 ^ j = 2 ^ i * (2 ^ (j - i) * q + 2 ^ (j - i)) := by rw [hq, e, Nat.mul_add]
  have e3 : a + 2 ^ i = 2 ^ i * (p + 1) := by rw [hp, Nat.mul_add, Nat.mul_one]
  rw [e2, e3]
  rw [hp, hq]
  generalize 2 ^ (j - i) * q = u
  generalize 2 ^ (j - i) = v
  by_cases h1 : p < u
  · exact .inr (.inl (Nat.mul_le_mul_left _ h1))
  · by_cases h2 : u + v ≤ p
    · exact .inr (.inr (Nat.mul_le_mul_left _ h2))
    · exact .inl ⟨Nat.mul_le_mul_left _ (by omega), Nat.mul_le_mul_left _ (by omega)⟩
theorem res_or (f : Bk) (c n : Nat) : ∀ x, f.res c n x = f x ∨ f.res c n x = none := fun x => by
  unfold Bk.res
  split
  · exact .inl rfl
  · exact .inr rfl
theorem res_in {f : Bk} {c n x : Nat} (h1 : c ≤ x) (h2 : x < c + n) : f.res c n x = f x := if_pos ⟨h1, h2⟩
theorem res_out {f : Bk} {c n x : Nat} (h : x < c ∨ c + n ≤ x) : f.res c n x = none := if_neg (by omega)
/-! equality of trees -/
mutual
theorem okT_up : ∀ (n : Nat) (d : D), okT n d = true → okT (n + 1) d = true
  | n, .non, _ => by unfold okT; rfl
  | n, .bl _, _ => by unfold okT; rfl
  | n, .int _, _ => by unfold okT; rfl
  | n, .str z, h => by unfold okT at h ⊢; exact h
  | 0, .tup l, h => by unfold okT at h; cases h
  | n + 1, .tup l, h => by
    rw [okT] at h ⊢
    exact okTs_up n l h
  | n, .ref _, h => by unfold okT at h; cases h
theorem okTs_up : ∀ (n : Nat) (l : List D), okTs n l = true → okTs (n + 1) l = true
  | n, [], _ => by rw [okTs]
  | n, d :: r, h => by
    rw [okTs] at h ⊢
    obtain ⟨h1, h2⟩ := Bool.and_eq_true_iff.mp h
    exact Bool.and_eq_true_iff.mpr ⟨okT_up n d h1, okTs_up n r h2⟩
end
theorem okT_mono {n m : Nat} {d : D} (h : okT n d = true) (hm : n ≤ m) : okT m d = true := by
  induction hm with
  | refl => exact h
  | step _ ih => exact okT_up _ _ ih
mutual
theorem eqv_self : ∀ d : D, PyData.eqv (toP d) (toP d) = true
  | .non => by simp [toP, PyData.eqv]
  | .bl b => by cases b <;> simp [toP, PyData.eqv]
  | .int i => by simp [toP, PyData.eqv]
  | .str z => by simp [toP, PyData.eqv]
  | .ref _ => by simp [toP, PyData.eqv]
  | .hot _ _ => by simp [toP, PyData.eqv]
  | .tup l => by
    rw [toP, PyData.eqv]
    exact eqvs_self l
theorem eqvs_self : ∀ l : List D, PyData.eqvAll (toPs l) (toPs l) = true
  | [] => by simp [toPs, PyData.eqvAll]
  | d :: r => by
    rw [toPs, PyData.eqvAll, eqv_self d, eqvs_self r]
    rfl
end
theorem eqB_refl (d : D) : eqB d d = true := eqv_self d
def Tr.all (okd : D → Prop) : Tr → Prop
  | .lf _ d => okd d
  | .kn _ _ l r => Tr.all okd l ∧ Tr.all okd r
theorem dt_okT {ki : KI} {okd : D → Prop} {m : Nat} (ht : ∀ t : Tr, Tr.all okd t → okT m (t.tot ki) = true) (hd : ∀ d, okd d → okT m d = true) : ∀ {t : Tr}, t.ok → Tr.all okd t → okT (t.bt + m + 1) (t.dt ki) = true
  | .lf a d, h, ha => by
    have h1 := ht (.lf a d) ha
    have h2 := hd d ha
    show okT (0 + m + 1) (.tup [.int (a : Int), .int ((2 ^ 0 : Nat) : Int), (Tr.lf a d).tot ki, d]) = true
    rw [okT, Nat.zero_add, okTs, okTs, okTs, okTs, okTs, h1, h2]
    cases m <;> simp [okT]
  | .kn lo b l r, h, ha => by
    obtain ⟨c, rfl, g1, g2, g3, g4, g5, g6, g7⟩ := h
    have h1 := okT_mono (ht (.kn lo (c + 1) l r) ha) (m := c + 1 + m) (by omega)
    have pl := pwp l.bt
    have pr := pwp r.bt
    have hl : l.bt ≤ c := by
      rcases Nat.lt_or_ge c l.bt with q | q
      · have := Nat.pow_le_pow_right (n := 2) (by decide) (show c + 1 ≤ l.bt from q)
        have := pw2 c
        have := pwp c
        omega
      · exact q
    have hr : r.bt ≤ c := by
      rcases Nat.lt_or_ge c r.bt with q | q
      · have := Nat.pow_le_pow_right (n := 2) (by decide) (show c + 1 ≤ r.bt from q)
        have := pw2 c
        have := pwp c
        omega
      · exact q
    have h2 := okT_mono (dt_okT ht hd g6 ha.1) (m := c + 1 + m) (by omega)
    have h3 := okT_mono (dt_okT ht hd g7 ha.2) (m := c + 1 + m) (by omega)
    show okT (c + 1 + m + 1) (.tup [.int (lo : Int), .int ((2 ^ (c + 1) : Nat) : Int), (Tr.kn lo (c + 1) l r).tot ki, l.dt ki, r.dt ki]) = true
    rw [okT, okTs, okTs, okTs, okTs, okTs, okTs, h1, h2, h3]
    simp [okT]
/-! the plain kind -/
def plus : D → D → D
  | .int a, .int b => .int (a + b)
  | _, _ => .non
def plainK : KI := ⟨fun _ _ => .int 1, plus⟩
theorem plain_tot : ∀ t : Tr, t.tot plainK = .int (t.row.length : Int)
  | .lf a d => rfl
  | .kn lo b l r => by
    show plus (l.tot plainK) (r.tot plainK) = _
    rw [plain_tot l, plain_tot r]
    show D.int _ = D.int _
    congr 1
    show _ = (((l.row ++ r.row).length : Nat) : Int)
    rw [List.length_append]
    omega
end PD

/-! Pdw: dicts: what they tell after a change; dicts that are books. -/
namespace PD
open PySem L2
section
variable {κ : Type} [DecidableEq κ] {l : List (κ × D)} {k k' : κ} {v d : D}
theorem valD_cons (k k' : κ) (v : D) (l : List (κ × D)) : valD ((k', v) :: l) k = if k' = k then some v else valD l k := by
  unfold valD
  rw [List.find?_cons]
  by_cases h : k' = k
  · simp [h]
  · simp [h]
theorem valD_nil (k : κ) : valD ([] : List (κ × D)) k = none := rfl
theorem valD_app (k k' : κ) (v : D) : ∀ l : List (κ × D), valD (l ++ [(k', v)]) k = match valD l k with
    | some d => some d
    | none => if k' = k then some v else none
  | [] => by
    rw [List.nil_append, valD_cons]
    rfl
  | (k1, v1) :: l => by
    rw [List.cons_append, valD_cons, valD_cons]
    by_cases h : k1 = k
    · simp [h]
    · simp only [h, if_false]
      exact valD_app k k' v l
theorem valD_none : ∀ {l : List (κ × D)}, valD l k = none ↔ k ∉ l.map (·.1)
  | [] => by simp [valD_nil]
  | (k1, v1) :: l => by
    rw [valD_cons, List.map_cons, List.mem_cons, not_or, ← valD_none (l := l)]
    by_cases h : k1 = k
    · simp [h]
    · simp [h, Ne.symm h, eq_comm]
theorem valD_mem : ∀ {l : List (κ × D)}, (l.map (·.1)).Nodup → (valD l k = some d ↔ (k, d) ∈ l)
  | [], _ => by simp [valD_nil]
  | (k1, v1) :: l, h => by
    rw [List.map_cons, List.nodup_cons] at h
    rw [valD_cons, List.mem_cons]
    by_cases e : k1 = k
    · subst e
      simp only [if_true, Option.some.injEq, Prod.mk.injEq, true_and]
      constructor
      · exact fun q => .inl q.symm
      · rintro (q | q)
        · exact q.symm
        · exact absurd (List.mem_map.mpr ⟨_, q, rfl⟩) h.1
    · rw [if_neg e, valD_mem h.2]
      constructor
      · exact .inr
      · rintro (q | q)
        · cases q; exact absurd rfl e
        · exact q
theorem any_iff : (l.any fun kv => decide (kv.1 = k)) = true ↔ k ∈ l.map (·.1) := by
  rw [List.any_eq_true, List.mem_map]
  constructor
  · rintro ⟨x, h1, h2⟩
    exact ⟨x, h1, of_decide_eq_true h2⟩
  · rintro ⟨x, h1, h2⟩
    exact ⟨x, h1, decide_eq_true h2⟩
theorem valD_map (v : D) (k k' : κ) : ∀ l : List (κ × D), k' ∈ l.map (·.1) → valD (l.map fun kv => if kv.1 = k' then (kv.1, v) else kv) k = if k' = k then some v else valD l k
  | [], h => nomatch h
  | (k1, v1) :: l, h => by
    rw [List.map_cons]
    by_cases e : k1 = k'
    · subst e
      rw [if_pos rfl, valD_cons, valD_cons]
      by_cases e2 : k1 = k
      · simp [e2]
      · simp only [e2, if_false]
        by_cases h3 : k1 ∈ l.map (·.1)
        · rw [valD_map v k k1 l h3, if_neg e2]
        · congr 1
          refine (List.map_congr_left fun x hx => ?_).trans (List.map_id _)
          have : x.1 ≠ k1 := fun q => h3 (List.mem_map.mpr ⟨x, hx, q⟩)
          rw [if_neg this]
          rfl
    · have h3 : k' ∈ l.map (·.1) := by
        rcases List.mem_cons.mp h with q | q
        · exact absurd q.symm e
        · exact q
      rw [if_neg e, valD_cons, valD_cons, valD_map v k k' l h3]
      by_cases e2 : k1 = k
      · subst e2
        simp [Ne.symm e, e, eq_comm]
      · simp only [e2, if_false]
theorem valD_putD (l : List (κ × D)) (k k' : κ) (v : D) : valD (putD l k' v) k = if k' = k then some v else valD l k := by
  unfold putD
  by_cases h : (l.any fun kv => decide (kv.1 = k')) = true
  · rw [if_pos h]
    exact valD_map v k k' l (any_iff.mp h)
  · rw [if_neg h, valD_app]
    by_cases e : k' = k
    · subst e
      rw [valD_none.mpr fun q => h (any_iff.mpr q)]
    · simp only [e, if_false]
      cases valD l k <;> rfl
theorem valD_dropD (k k' : κ) : ∀ l : List (κ × D), valD (dropD l k') k = if k' = k then none else valD l k
  | [] => by
    show none = _
    split <;> rfl
  | (k1, v1) :: l => by
    have ih := valD_dropD k k' l
    unfold dropD at ih ⊢
    rw [List.filter_cons]
    by_cases e : k1 = k'
    · subst e
      simp only [ne_eq, not_true_eq_false, decide_false, Bool.false_eq_true, if_false, ih, valD_cons]
      by_cases e2 : k1 = k <;> simp [e2]
    · simp only [ne_eq, e, not_false_eq_true, decide_true, if_true, valD_cons]
      unfold valD at ih ⊢
      rw [ih]
      by_cases e2 : k1 = k
      · subst e2
        simp [Ne.symm e, eq_comm]
      · simp [e2]
theorem keys_putD (l : List (κ × D)) (k : κ) (v : D) : (putD l k v).map (·.1) = if k ∈ l.map (·.1) then l.map (·.1) else l.map (·.1) ++ [k] := by
  unfold putD
  by_cases h : (l.any fun kv => decide (kv.1 = k)) = true
  · rw [if_pos h, if_pos (any_iff.mp h), List.map_map]
    refine List.map_congr_left fun x hx => ?_
    simp only [Function.comp]
    split <;> rfl
  · rw [if_neg h, if_neg fun q => h (any_iff.mpr q), List.map_append]
    rfl
theorem nodup_putD (h : (l.map (·.1)).Nodup) (k : κ) (v : D) : ((putD l k v).map (·.1)).Nodup := by
  rw [keys_putD]
  split
  · exact h
  · next q =>
    refine List.nodup_append.mpr ⟨h, by simp, fun a ha b hb e => ?_⟩
    rw [List.mem_singleton.mp hb] at e
    exact q (e ▸ ha)
theorem nodup_dropD (h : (l.map (·.1)).Nodup) (k : κ) : ((dropD l k).map (·.1)).Nodup := List.Sublist.nodup (List.Sublist.map _ List.filter_sublist) h
theorem len_putD (l : List (κ × D)) (k : κ) (v : D) : (putD l k v).length ≤ l.length + 1 := by
  unfold putD
  split
  · rw [List.length_map]; omega
  · simp
end
/-! dicts in the store -/
section
variable {s t : Sto} {n m : Nat} {l : List (Key × D)} {k : Key} {x v d : D} {Q : D → Sto → Prop} {o : O}
theorem dk_of_dw (h : dw? s n = some l) : dk? s n = some l := by
  unfold dw? at h
  unfold dk?
  cases e : s[n]? with
  | none => rw [e] at h; cases h
  | some o => cases o <;> rw [e] at h <;> first | exact h | cases h
theorem dw_lt (h : dw? s n = some l) : n < s.length := by
  unfold dw? at h
  cases e : s[n]? with
  | none => rw [e] at h; cases h
  | some o => exact (List.getElem?_eq_some_iff.mp e).1
theorem dw_app (h : dw? s n = some l) : dw? (s ++ t) n = some l := by
  have hl := dw_lt h
  unfold dw? at h ⊢
  rw [List.getElem?_append_left hl]
  exact h
theorem dw_set_self {l' : List (Key × D)} (h : n < s.length) : dw? (s.set n (.dk l')) n = some l' := by
  unfold dw?
  rw [List.getElem?_set_self h]
theorem dw_at (i : Nat) : dw? (s ++ t) (s.length + i) = dw? t i := by
  unfold dw?
  rw [List.getElem?_append_right (Nat.le_add_right _ _), Nat.add_sub_cancel_left]
theorem dk_lt (h : dk? s n = some l) : n < s.length := by
  unfold dk? at h
  cases e : s[n]? with
  | none => rw [e] at h; cases h
  | some o => exact (List.getElem?_eq_some_iff.mp e).1
theorem dk_app (h : dk? s n = some l) : dk? (s ++ t) n = some l := by
  unfold dk? at h ⊢
  rw [List.getElem?_append_left (dk_lt (l := l) (by unfold dk?; exact h))]
  exact h
theorem seq_of_dk (h : dk? s n = some l) : seq? s n = none := by
  unfold dk? at h
  unfold seq?
  cases e : s[n]? with
  | none => rfl
  | some o =>
    rw [e] at h
    cases o with
    | dk l' => rfl
    | lk l' => rfl
    | _ => cases h
theorem lst_of_dk (h : dk? s n = some l) : lst? s n = none := by
  unfold dk? at h
  unfold lst?
  cases e : s[n]? with
  | none => rfl
  | some o =>
    rw [e] at h
    cases o with
    | dk l' => rfl
    | lk l' => rfl
    | _ => cases h
theorem in_dk (h : dk? s n = some l) (hk : key? x = some k) : inD x (.ref n) s = .ok (.bl (valD l k).isSome) s := by
  unfold inD op2or inSeq inTxt inDk
  simp only [items_ref, seq_of_dk h, h, hk] <;> (cases x <;> first | rfl | cases hk)
theorem nin_dk (h : dk? s n = some l) (hk : key? x = some k) : ninD x (.ref n) s = .ok (.bl (!(valD l k).isSome)) s := by
  unfold ninD op2or inSeq inTxt inDk
  simp only [items_ref, seq_of_dk h, h, hk] <;> (cases x <;> first | rfl | cases hk)
theorem ix_dk (h : dk? s n = some l) (hk : key? x = some k) (hv : valD l k = some d) : ixD (.ref n) x s = .ok d s := by
  unfold ixD op2or ixSeq ixTxt ixDk
  cases x with
  | int i =>
    cases hk
    simp only [items_ref, seq_of_dk h, h, hv, key?]
    rfl
  | str z =>
    cases hk
    simp only [h, hv, key?]
    rfl
  | _ => cases hk
theorem get_dk (h : dk? s n = some l) (hk : key? x = some k) : getOf (.ref n) x v s = .ok ((valD l k).getD v) s := by
  unfold getOf
  simp only [h, hk]
  cases valD l k <;> rfl
theorem isDk_ (h : dk? s n = some l) : isDk s (.ref n) = true := by
  show (dk? s n).isSome = true
  rw [h]
  rfl
theorem put_dk (h : dw? s n = some l) (hk : key? x = some k) (hl : l.length < 1000000) : putO (.ref n) x v s = some (s.set n (.dk (putD l k v))) := by
  unfold putO setLst setDk
  have e : decide (l.length < line) = true := decide_eq_true hl
  cases x with
  | int i =>
    cases hk
    simp only [lst_of_dk (dk_of_dw h), h, key?, e]
    rfl
  | str z =>
    cases hk
    simp only [h, key?, e]
    rfl
  | _ => cases hk
end
/-! ### dicts that are books -/
abbrev T30 : Nat := 1073741824
structure DR (l : List (Key × D)) (f : Bk) : Prop where
  nd : (l.map (·.1)).Nodup
  of_ : ∀ k d, (k, d) ∈ l → ∃ x : Nat, x < T30 ∧ k = .inl (x : Int) ∧ f x = some d
  to_ : ∀ x d, f x = some d → x < T30 ∧ ((.inl (x : Int) : Key), d) ∈ l
def nobook : Bk := fun _ => none
theorem DR.nil : DR [] nobook := ⟨List.nodup_nil, fun _ _ h => (nomatch h), fun _ _ h => (nomatch h)⟩
theorem DR.val {l : List (Key × D)} {f : Bk} (h : DR l f) (x : Nat) : valD l (.inl (x : Int)) = f x := by
  cases e : f x with
  | some d => exact (valD_mem h.nd).mpr (h.to_ x d e).2
  | none =>
    cases e2 : valD l (.inl (x : Int)) with
    | none => rfl
    | some d =>
      obtain ⟨y, _, h1, h2⟩ := h.of_ _ _ ((valD_mem h.nd).mp e2)
      have : (x : Int) = (y : Int) := by injection h1
      have : x = y := by omega
      subst this
      rw [e] at h2
      cases h2
theorem DR.of_val {l : List (Key × D)} {f : Bk} (hn : (l.map (·.1)).Nodup) (hk : ∀ k ∈ l.map (·.1), ∃ x : Nat, x < T30 ∧ k = .inl (x : Int)) (hv : ∀ x : Nat, valD l (.inl (x : Int)) = f x) : DR l f := by
  refine ⟨hn, fun k d h => ?_, fun x d h => ?_⟩
  · obtain ⟨x, h1, h2⟩ := hk k (List.mem_map.mpr ⟨_, h, rfl⟩)
    refine ⟨x, h1, h2, ?_⟩
    rw [← hv, ← h2]
    exact (valD_mem hn).mpr h
  · rw [← hv] at h
    have hm := (valD_mem hn).mp h
    obtain ⟨y, h1, h2⟩ := hk _ (List.mem_map.mpr ⟨_, hm, rfl⟩)
    have : (x : Int) = (y : Int) := by injection h2
    exact ⟨by omega, hm⟩
theorem DR.key {l : List (Key × D)} {f : Bk} (h : DR l f) : ∀ k ∈ l.map (·.1), ∃ x : Nat, x < T30 ∧ k = .inl (x : Int) := fun k hk => by
  obtain ⟨⟨k', d⟩, h1, rfl⟩ := List.mem_map.mp hk
  obtain ⟨x, h2, h3, _⟩ := h.of_ _ _ h1
  exact ⟨x, h2, h3⟩
theorem DR.put {l : List (Key × D)} {f : Bk} (h : DR l f) {a : Nat} (ha : a < T30) (d : D) : DR (putD l (.inl (a : Int)) d) (f.put a (some d)) := by
  refine .of_val (nodup_putD h.nd ..) (fun k hk => ?_) fun x => ?_
  · rw [keys_putD] at hk
    split at hk
    · exact h.key k hk
    · rcases List.mem_append.mp hk with q | q
      · exact h.key k q
      · exact ⟨a, ha, List.mem_singleton.mp q⟩
  · rw [valD_putD, h.val]
    unfold Bk.put
    by_cases e : x = a
    · subst e
      simp
    · rw [if_neg e, if_neg]
      intro q
      have : (a : Int) = (x : Int) := by injection q
      omega
theorem DR.drop {l : List (Key × D)} {f : Bk} (h : DR l f) (a : Nat) : DR (dropD l (.inl (a : Int))) (f.put a none) := by
  refine .of_val (nodup_dropD h.nd ..) (fun k hk => ?_) fun x => ?_
  · obtain ⟨⟨k', d⟩, h1, rfl⟩ := List.mem_map.mp hk
    exact h.key _ (List.mem_map.mpr ⟨_, (List.mem_filter.mp h1).1, rfl⟩)
  · rw [valD_dropD, h.val]
    unfold Bk.put
    by_cases e : x = a
    · subst e
      simp
    · rw [if_neg e, if_neg]
      intro q
      have : (a : Int) = (x : Int) := by injection q
      omega
/-- the deeds of a book in the order of times -/
def rows (f : Bk) : List (Nat × D) := rowB 30 0 f
theorem DR.rows_mem {l : List (Key × D)} {f : Bk} (h : DR l f) {x : Nat} {d : D} : (x, d) ∈ rows f ↔ f x = some d := by
  unfold rows
  rw [row_mem]
  constructor
  · exact fun q => q.2.2
  · intro q
    have := (h.to_ x d q).1
    exact ⟨Nat.zero_le _, by simpa [T30] using this, q⟩
theorem DR.perm {l : List (Key × D)} {f : Bk} (h : DR l f) : l.Perm ((rows f).map fun p => ((.inl (p.1 : Int) : Key), p.2)) := by
  have hr : ((rows f).map fun p => ((.inl (p.1 : Int) : Key), p.2)).Nodup := by
    refine List.pairwise_map.mpr ((row_asc 30 0).imp ?_)
    intro p q hpq e
    have e1 : (p.1 : Int) = (q.1 : Int) := by
      have := congrArg Prod.fst e
      injection this
    omega
  have hl : l.Nodup := (List.pairwise_map.mp h.nd).imp fun q e => q (congrArg _ e)
  refine (List.perm_ext_iff_of_nodup hl hr).mpr ?_
  rintro ⟨k, d⟩
  rw [List.mem_map]
  constructor
  · intro q
    obtain ⟨x, h1, h2, h3⟩ := h.of_ k d q
    exact ⟨(x, d), h.rows_mem.mpr h3, by rw [h2]⟩
  · rintro ⟨⟨x, d'⟩, h1, h2⟩
    cases h2
    exact (h.to_ x d' (h.rows_mem.mp h1)).2
theorem DR.len {l : List (Key × D)} {f : Bk} (h : DR l f) : (rows f).length = l.length := by
  have := h.perm.length_eq
  rw [List.length_map] at this
  exact this.symm
theorem DR.srt {l : List (Key × D)} {f : Bk} (h : DR l f) {s : Sto} {n : Nat} (hs : dk? s n = some l) : sortedD [.ref n] s = .ok (.ref s.length) (s ++ [.lst ((rows f).map fun p => D.int (p.1 : Int))]) := by
  have hks : ∀ {l : List (Key × D)}, (∀ k ∈ l.map (·.1), ∃ x : Nat, x < T30 ∧ k = .inl (x : Int)) → ∃ ns : List Int, ints? (l.map fun p => match p.1 with | .inl i => D.int i | .inr z => D.str z) = some ns ∧ l.map (·.1) = ns.map Sum.inl := by
    intro l
    induction l with
    | nil => exact fun _ => ⟨[], rfl, rfl⟩
    | cons p r ih =>
      intro hk
      obtain ⟨ns, h1, h2⟩ := ih fun k q => hk k (List.mem_cons_of_mem _ q)
      obtain ⟨x, _, h3⟩ := hk p.1 (List.mem_cons_self ..)
      refine ⟨(x : Int) :: ns, ?_, ?_⟩
      · rw [List.map_cons, h3]
        unfold ints?
        rw [h1]
        rfl
      · rw [List.map_cons, h2, h3]
        rfl
  obtain ⟨ns, h1, h2⟩ := hks h.key
  have hp : ((rows f).map fun p => (p.1 : Int)).Perm ns := by
    have e := (h.perm.map (·.1)).symm
    rw [List.map_map, h2] at e
    have e2 := e.map (fun k : Key => match k with | .inl i => i | .inr _ => 0)
    rw [List.map_map, List.map_map] at e2
    have z : ns.map ((fun k : Key => match k with | .inl i => i | .inr _ => 0) ∘ Sum.inl) = ns := (List.map_congr_left fun x _ => rfl).trans (List.map_id _)
    rw [z] at e2
    exact e2
  have hsrt : srtI ns = (rows f).map fun p => (p.1 : Int) := (srtI_uniq hp (List.pairwise_map.mpr ((row_asc 30 0).imp fun {p q} hpq => by omega))).symm
  have e : sortDI [.ref n] s = newO (.lst ((srtI ns).map D.int)) s := by
    unfold sortDI
    simp only [hs]
    generalize hg : ints? _ = g
    have : g = some ns := hg.symm.trans h1
    subst this
    rfl
  rw [hsrt, List.map_map] at e
  unfold sortedD opCor sortI sortP sortT
  simp only [seq_of_dk hs, Option.bind_none, e]
  rfl
/-! ### comprehensions over a list, one name -/
section
variable {s : Sto} {ρ : En} {i v r : Nat} {l : List D} {tt : GT} {te : GE} {p : D → Bool} {f : D → D} {Q : D → Sto → Prop}
theorem cutL_map {β : Type} (g : β → D) (l : List β) (lo hi : Option Int) : cutL (l.map g) lo hi = (cutL l lo hi).map g := by
  unfold cutL
  simp only [List.length_map, List.map_take, List.map_drop]
theorem cutL_le {β : Type} (l : List β) (a b : Nat) : (cutL l (some (a : Int)) (some (b : Int))).length ≤ b - a := by
  unfold cutL HT.sIx
  simp only [List.length_take, List.length_drop]
  rw [if_neg (by omega), if_neg (by omega)]
  simp only [Int.toNat_natCast]
  omega
end
end PD

/-! Pdx: stores that grew; new things by their names; what a tree has ahead of a number. -/
namespace PD
open PySem L2
def Ext (s s' : Sto) : Prop := ∃ t, s' = s ++ t
section
variable {s s1 s2 s3 t : Sto} {Q : D → Sto → Prop} {l l' : List D} {n m k : Nat} {x d : D} {ρ : En} {kvs : List (Key × D)}
theorem Ext.refl : Ext s s := ⟨[], by simp⟩
theorem Ext.app : Ext s (s ++ t) := ⟨t, rfl⟩
theorem Ext.trans (h : Ext s1 s2) (h2 : Ext s2 s3) : Ext s1 s3 := by
  obtain ⟨t, rfl⟩ := h
  obtain ⟨u, rfl⟩ := h2
  exact ⟨t ++ u, List.append_assoc ..⟩
theorem Ext.sq (h : Ext s1 s2) (e : seq? s1 n = some l) : seq? s2 n = some l := by
  obtain ⟨t, rfl⟩ := h
  exact seq_app e
theorem Ext.ls (h : Ext s1 s2) (e : lst? s1 n = some l) : lst? s2 n = some l := by
  obtain ⟨t, rfl⟩ := h
  exact lst_app e
theorem Ext.dk (h : Ext s1 s2) (e : dk? s1 n = some kvs) : dk? s2 n = some kvs := by
  obtain ⟨t, rfl⟩ := h
  exact dk_app e
theorem Ext.ins {c : Str} {fs : List (Str × D)} (h : Ext s1 s2) (e : ins? s1 x = some (c, fs)) : ins? s2 x = some (c, fs) := by
  obtain ⟨t, rfl⟩ := h
  exact ins_app e
theorem Ext.len (h : Ext s1 s2) : s1.length ≤ s2.length := by
  obtain ⟨t, rfl⟩ := h
  simp
/-- a new list -/
def NL (l : List D) (s : Sto) (Q : D → Sto → Prop) : Prop := ∀ n s', Ext s s' → s.length ≤ n → lst? s' n = some l → Q (.ref n) s'
theorem nl (h : NL l s Q) : Q (.ref s.length) (s ++ [.lst l]) := h _ _ .app (Nat.le_refl _) (by simp)
theorem x_add (h1 : seq? s m = some l) (h2 : seq? s k = some l') (hl : l.length + l'.length ≤ 1000000) (h : NL (l ++ l') s Q) : EW (addD (.ref m) (.ref k) s) Q := by
  rw [add_lst_ h1 h2 hl]
  exact nl h
theorem x_sl {lo hi : Option Int} (h1 : seq? s m = some l) (h : NL (cutL l lo hi) s Q) : EW (slD (.ref m) lo hi s) Q := by
  rw [sl_ref_ h1]
  exact nl h
theorem x_lst {gl : GA} (h : EW (gl ρ s) fun l s1 => l.length ≤ 1000000 ∧ NL l s1 Q) : EW (gLst gl ρ s) Q := by
  rw [ew_lst]
  exact h.mono fun l s1 q => ⟨q.1, nl q.2⟩
theorem x_srt {f : Bk} (h1 : DR kvs f) (h2 : dk? s n = some kvs) (h : NL ((rows f).map fun p => D.int (p.1 : Int)) s Q) : EW (sortedD [.ref n] s) Q := by
  rw [h1.srt h2]
  exact nl h
theorem x_make0 {c : Str} (h : ∀ n s', Ext s s' → s.length ≤ n → ins? s' (.ref n) = some (c, []) → Q (.ref n) s') : EW (gMake0 c ρ s) Q := by
  refine h _ _ .app (Nat.le_refl _) ?_
  show (match (s ++ [O.ins c []])[s.length]? with
    | some (.ins c fs) => some (c, fs)
    | _ => none) = _
  rw [List.getElem?_append_right (Nat.le_refl _), Nat.sub_self]
  rfl
theorem x_itseq (h : seq? s n = some l) : ∀ (i : Nat) (s' : Sto), Ext s s' → itSeq (.ref n) i s' = some l[i]? := fun i s' e => by
  unfold itSeq
  rw [items_ref, e.sq h]
theorem x_range (h : 0 ≤ k ∧ k ≤ 1000000) : rngOk (k : Int) = true := by
  unfold rngOk
  simp only [Bool.and_eq_true, decide_eq_true_eq]
  omega
end
/-! ### ahead -/
/-- the trees ahead of e, of a book's stretch -/
def cv : Nat → Nat → Nat → List (Nat × Nat)
  | 0, lo, e => if e = lo + 1 then [(0, lo)] else []
  | b + 1, lo, e => if e = lo + 2 ^ (b + 1) then [(b + 1, lo)] else if lo + 2 ^ b ≤ e then (b, lo) :: cv b (lo + 2 ^ b) e else cv b lo e
end PD
namespace PD
open PySem L2
theorem mk_res {f : Bk} : ∀ {b lo c j : Nat}, lo % 2 ^ b = 0 → c % 2 ^ j = 0 → lo ≤ c → c + 2 ^ j ≤ lo + 2 ^ b → mk b lo (f.res c (2 ^ j)) = mk j c f
  | 0, lo, c, j, hm, hj, h1, h2 => by
    have hp := pwp j
    have e0 : (2 : Nat) ^ 0 = 1 := rfl
    have hj1 : 2 ^ j = 2 ^ 0 := by omega
    have hj0 : j = 0 := Nat.le_antisymm (pow_le_iff.mp (Nat.le_of_eq hj1)) (Nat.zero_le _)
    subst hj0
    have : c = lo := by omega
    subst this
    exact mk_congr fun x q1 q2 => res_in q1 (by omega)
  | b + 1, lo, c, j, hm, hj, h1, h2 => by
    have hp := pw2 b
    have hpj := pwp j
    obtain ⟨m1, m2⟩ := mod_half hm
    by_cases q : j ≤ b
    · have e : mk (b + 1) lo (f.res c (2 ^ j)) = jn lo (b + 1) (mk b lo (f.res c (2 ^ j))) (mk b (lo + 2 ^ b) (f.res c (2 ^ j))) := rfl
      have hn := nest hj m2 q
      have hn2 := nest hj m1 q
      by_cases q2 : c < lo + 2 ^ b
      · rw [e, mk_res m1 hj h1 (by omega), (mk_none (b := b) (lo := lo + 2 ^ b)).mpr fun x r1 r2 => res_out (by omega)]
        cases mk j c f <;> rfl
      · rw [e, mk_res m2 hj (by omega) (by omega), (mk_none (b := b) (lo := lo)).mpr fun x r1 r2 => res_out (by omega)]
        rfl
    · have hle := Nat.pow_le_pow_right (n := 2) (by decide) (show b + 1 ≤ j by omega)
      have e2 : 2 ^ j = 2 ^ (b + 1) := by omega
      have e3 : j = b + 1 := Nat.le_antisymm (pow_le_iff.mp (Nat.le_of_eq e2)) (pow_le_iff.mp (Nat.le_of_eq e2.symm))
      subst e3
      have : c = lo := by omega
      subst this
      exact mk_congr fun x q1 q2 => res_in q1 (by omega)
end PD
namespace PD
open PySem L2
theorem rows_mem {f : Bk} {x : Nat} {d : D} : (x, d) ∈ rows f ↔ x < 1073741824 ∧ f x = some d := by
  unfold rows
  rw [row_mem]
  simp
theorem rows_asc (f : Bk) : Asc (rows f) := row_asc 30 0
end PD

/-! Pdy: equality of lists; comprehensions over pairs; lists repeated. -/
namespace PD
open PySem L2
section
variable {s : Sto} {m n : Nat} {L L' : List D}
theorem py_lst (h : seq? s m = some L) (k : okTs 59 L = true) : pyOf s 60 (.ref m) = some (.list (toPs L)) ∧ PyData.canLay0 (.list (toPs L)) = true ∧ PyData.depth (.list (toPs L)) ≤ 60 := by
  obtain ⟨a1, a2, a3⟩ := (pyOf_okT (s := s) 59).2 L k
  refine ⟨?_, ?_, ?_⟩
  · show (match seq? s m with
      | some l => (optAll (l.map (pyOf s 59))).map PyData.list
      | none => none) = _
    rw [h]
    show (optAll (L.map (pyOf s 59))).map PyData.list = _
    rw [a1]
    rfl
  · rw [PyData.canLay0]
    exact a2
  · rw [PyData.depth]
    omega
theorem eqG_lst (h1 : seq? s m = some L) (h2 : seq? s n = some L') (k1 : okTs 59 L = true) (k2 : okTs 59 L' = true) : eqG? s (.ref m) (.ref n) = some (PyData.eqvAll (toPs L) (toPs L')) := by
  obtain ⟨a1, a2, a3⟩ := py_lst h1 k1
  obtain ⟨b1, b2, b3⟩ := py_lst h2 k2
  unfold eqG?
  simp only [a1, b1]
  rw [if_pos]
  · rw [PyData.eqv]
  · unfold SeqAt.shaped
    rw [a2, b2, decide_eq_true (show (PyData.list (toPs L)).depth ≤ 64 by omega), decide_eq_true (show (PyData.list (toPs L')).depth ≤ 64 by omega)]
    rfl
theorem neD_lst (h1 : seq? s m = some L) (h2 : seq? s n = some L') (k1 : okTs 59 L = true) (k2 : okTs 59 L' = true) : neD (.ref m) (.ref n) s = .ok (.bl (!PyData.eqvAll (toPs L) (toPs L'))) s := by
  have e := eqG_lst h1 h2 k1 k2
  unfold neD op2or eqS eqG
  simp only [e]
  rfl
theorem neD_same (h1 : seq? s m = some L) (h2 : seq? s n = some L) (k : okTs 59 L = true) : neD (.ref m) (.ref n) s = .ok (.bl false) s := by
  rw [neD_lst h1 h2 k k, eqvs_self]
  rfl
end
def tD (t : Nat) : D := .int (t : Int)
def pD (p : Nat × D) : D := .tup [.int (p.1 : Int), p.2]
/-! comprehensions -/
section
variable {s : Sto} {ρ : En} {l : List D} {tt : GT} {te : GE} {it : IT} {P : Sto → Prop}
end
end PD
namespace PD
open PySem L2
section
variable {a b c : GE} {ρ : En} {s : Sto}
end
end PD
namespace PD
open PySem L2
end PD

/-! Pdz: one thing changed; rules that name what is new, with its place. -/
namespace PD
open PySem L2
/-- all but the thing m stays -/
def ExtX (m : Nat) (s s' : Sto) : Prop := s'.length = s.length ∧ ∀ n, n ≠ m → s'[n]? = s[n]?
section
variable {s s0 s1 s2 s3 s' t : Sto} {Q : D → Sto → Prop} {P : Sto → Prop} {l l' : List D} {n m k : Nat} {x d v : D} {ρ : En} {kvs : List (Key × D)} {o : O} {c : Str} {fs : List (Str × D)} {i : Int}
theorem ExtX.of : ExtX m s (s.set m o) := ⟨List.length_set .., fun n h => List.getElem?_set_ne (Ne.symm h)⟩
theorem ExtX.sq (x : ExtX m s s') (h : n ≠ m) (e : seq? s n = some l) : seq? s' n = some l := by
  unfold seq? at e ⊢
  rw [x.2 n h]
  exact e
theorem ExtX.ls (x : ExtX m s s') (h : n ≠ m) (e : lst? s n = some l) : lst? s' n = some l := by
  unfold lst? at e ⊢
  rw [x.2 n h]
  exact e
theorem ExtX.dk (x : ExtX m s s') (h : n ≠ m) (e : dk? s n = some kvs) : dk? s' n = some kvs := by
  unfold dk? at e ⊢
  rw [x.2 n h]
  exact e
theorem ExtX.ins (x : ExtX m s s') (h : n ≠ m) (e : ins? s (.ref n) = some (c, fs)) : ins? s' (.ref n) = some (c, fs) := by
  unfold ins? at e ⊢
  dsimp only at e ⊢
  rw [x.2 n h]
  exact e
theorem ExtX.trans (x : ExtX m s1 s2) (y : ExtX m s2 s3) : ExtX m s1 s3 := ⟨y.1.trans x.1, fun n h => (y.2 n h).trans (x.2 n h)⟩
theorem ExtX.refl : ExtX m s s := ⟨rfl, fun _ _ => rfl⟩
theorem Ext.setx (h : Ext s0 s) (g : s0.length ≤ m) (x : ExtX m s s') : Ext s0 s' := by
  obtain ⟨t, rfl⟩ := h
  refine ⟨s'.drop s0.length, ?_⟩
  have e : s'.take s0.length = s0 := by
    apply List.ext_getElem?
    intro n
    rw [List.getElem?_take]
    by_cases hn : n < s0.length
    · rw [if_pos hn, x.2 n (by omega), List.getElem?_append_left hn]
    · rw [if_neg hn, List.getElem?_eq_none (by omega)]
  conv => lhs; rw [← List.take_append_drop s0.length s', e]
def Pl (s s' : Sto) (n : Nat) : Prop := s.length ≤ n ∧ n < s'.length ∧ s.length ≤ s'.length
theorem Pl.of (h : lst? s' n = some l) (e : s.length ≤ n) (x : Ext s s') : s.length ≤ n ∧ n < s'.length ∧ s.length ≤ s'.length := ⟨e, lst_lt h, x.len⟩
/-- a new list -/
def NL2 (l : List D) (s : Sto) (Q : D → Sto → Prop) : Prop := ∀ n s', Ext s s' → s.length ≤ n ∧ n < s'.length ∧ s.length ≤ s'.length → lst? s' n = some l → Q (.ref n) s'
theorem NL2.old (h : NL2 l s Q) : NL l s Q := fun n s' e g q => h n s' e ⟨g, lst_lt q, e.len⟩ q
theorem y_add (h1 : seq? s m = some l) (h2 : seq? s k = some l') (hl : l.length + l'.length ≤ 1000000) (h : NL2 (l ++ l') s Q) : EW (addD (.ref m) (.ref k) s) Q := x_add h1 h2 hl h.old
theorem y_sl {lo hi : Option Int} (h1 : seq? s m = some l) (h : NL2 (cutL l lo hi) s Q) : EW (slD (.ref m) lo hi s) Q := x_sl h1 h.old
theorem y_lst {gl : GA} (h : EW (gl ρ s) fun l s1 => l.length ≤ 1000000 ∧ NL2 l s1 Q) : EW (gLst gl ρ s) Q := x_lst (h.mono fun l s1 q => ⟨q.1, q.2.old⟩)
theorem y_lst0 (h : NL2 [] s Q) : EW (gLst gNil ρ s) Q := y_lst (gl := gNil) (by rw [ew_nil]; exact ⟨by simp, h⟩)
theorem y_srt {f : Bk} (h1 : DR kvs f) (h2 : dk? s n = some kvs) (h : NL2 ((rows f).map fun p => D.int (p.1 : Int)) s Q) : EW (sortedD [.ref n] s) Q := x_srt h1 h2 h.old
theorem y_dct0 (h : ∀ n s', Ext s s' → s.length ≤ n ∧ n < s'.length ∧ s.length ≤ s'.length → dw? s' n = some [] → Q (.ref n) s') : EW (gDct0 ρ s) Q := by
  rw [ew_dct0]
  exact h _ _ .app ⟨Nat.le_refl _, by simp, by simp⟩ (dw_at 0)
theorem Ext.dw (h : Ext s1 s2) (e : dw? s1 n = some kvs) : dw? s2 n = some kvs := by
  obtain ⟨t, rfl⟩ := h
  exact dw_app e
theorem ExtX.dw (x : ExtX m s s') (h : n ≠ m) (e : dw? s n = some kvs) : dw? s' n = some kvs := by
  unfold dw? at e ⊢
  rw [x.2 n h]
  exact e
/-- a dict that is walked -/
def lk? (s : Sto) (n : Nat) : Option (List (Key × D)) := match s[n]? with
  | some (.lk l) => some l
  | _ => none
theorem lk_lt (h : lk? s n = some kvs) : n < s.length := by
  unfold lk? at h
  cases e : s[n]? with
  | none => rw [e] at h; cases h
  | some o => exact (List.getElem?_eq_some_iff.mp e).1
theorem dk_of_lk (h : lk? s n = some kvs) : dk? s n = some kvs := by
  unfold lk? at h
  unfold dk?
  cases e : s[n]? with
  | none => rw [e] at h; cases h
  | some o => cases o <;> rw [e] at h <;> first | exact h | cases h
theorem Ext.lk (h : Ext s1 s2) (e : lk? s1 n = some kvs) : lk? s2 n = some kvs := by
  obtain ⟨t, rfl⟩ := h
  have hl := lk_lt e
  unfold lk? at e ⊢
  rw [List.getElem?_append_left hl]
  exact e
theorem ExtX.lk (x : ExtX m s s') (h : n ≠ m) (e : lk? s n = some kvs) : lk? s' n = some kvs := by
  unfold lk? at e ⊢
  rw [x.2 n h]
  exact e
theorem ins_lt (h : ins? s (.ref n) = some (c, fs)) : n < s.length := by
  unfold ins? at h
  dsimp only at h
  cases e : s[n]? with
  | none => rw [e] at h; cases h
  | some o => exact (List.getElem?_eq_some_iff.mp e).1
theorem y_make0 {c : Str} (h : ∀ n s', Ext s s' → s.length ≤ n ∧ n < s'.length ∧ s.length ≤ s'.length → ins? s' (.ref n) = some (c, []) → Q (.ref n) s') : EW (gMake0 c ρ s) Q := x_make0 fun n s' e g q => h n s' e ⟨g, ins_lt q, e.len⟩ q
/-! a list, a dict that changes -/
theorem y_app (h : lst? s n = some l) (hl : l.length < 1000000) (k : ∀ s', ExtX n s s' → s'.length = s.length → lst? s' n = some (l ++ [d]) → Q .non s') : EW (appendD (.ref n) [d] s) Q := by
  rw [append_ h hl]
  exact k _ .of (List.length_set ..) (lst_set_self (lst_lt h))
theorem y_putd {kk : Key} (h : dw? s n = some kvs) (hk : key? x = some kk) (hl : kvs.length < 1000000) (k : ∀ s', ExtX n s s' → s'.length = s.length → dw? s' n = some (putD kvs kk v) → P s') : WO (putO (.ref n) x v s) P := by
  rw [put_dk h hk hl]
  exact k _ .of (List.length_set ..) (dw_set_self (dw_lt h))
theorem key_int : key? (.int i) = some (.inl i) := rfl
theorem key_str {z : Str} : key? (.str z) = some (.inr z) := rfl
theorem key_tD : key? (tD n) = some (.inl (n : Int)) := rfl
theorem rng_nat (h : n ≤ 1000000) : rngOk (n : Int) = true := x_range ⟨Nat.zero_le _, h⟩
/-- what stands at a place of a list of things made from things -/
theorem get_map {β : Type} {f : β → D} {l : List β} {i : Nat} {d : D} (h : (l.map f)[i]? = some d) : ∃ p, l[i]? = some p ∧ d = f p := by
  rw [List.getElem?_map] at h
  cases e : l[i]? with
  | none => rw [e] at h; cases h
  | some q => rw [e] at h; exact ⟨q, rfl, (Option.some.inj h).symm⟩
theorem take_cons {β : Type} {l : List β} {i : Nat} {p : β} (h : l[i]? = some p) : l.take (i + 1) = l.take i ++ [p] := by
  rw [List.take_succ, h]
  rfl
theorem atI_map {β : Type} {f : β → D} {l : List β} {i : Nat} {p : β} (h : l[i]? = some p) : atI (l.map f) (i : Int) = some (f p) := by
  obtain ⟨hi, e⟩ := List.getElem?_eq_some_iff.mp h
  rw [PD.atI_nat (by rw [List.length_map]; exact hi), List.getElem?_map, h]
  rfl
end
/-! loops over lists of things made from things -/
section
variable {β : Type} {f : β → D} {l : List β} {n : Nat} {ρ : En} {s : Sto} {N B C : En → Sto → Prop} {R : D → Sto → Prop}
/-- for x in xs -/
theorem y_for {j : Nat} {b : GS} (I : Nat → En → Sto → Prop) (hl : l.length ≤ 1000000) (hI : ∀ i ρ s, I i ρ s → seq? s n = some (l.map f))
    (step : ∀ i ρ s p, l[i]? = some p → i < l.length → I i ρ s → SW (b (ρ.set j (some (f p))) s) (I (i + 1)) R N (I (i + 1)))
    (stop : ∀ ρ s, I l.length ρ s → N ρ s) (h : I 0 ρ s) : SW (forG (itSeq (.ref n)) (gName_ j) b lots 0 ρ s) N R B C := by
  refine for_list (l := l.map f) I (by show _ ≤ 1000000; rw [List.length_map]; exact hl) hI (fun i ρ s d hd h => ?_) (fun ρ s h => stop ρ s (by rw [List.length_map] at h; exact h)) h
  obtain ⟨p, hp, rfl⟩ := get_map hd
  exact step i ρ s p hp (List.getElem?_eq_some_iff.mp hp).1 h
end
end PD

/-! Pe0: the book of a row; rows put in by any order. -/
namespace PD
open PySem L2
def bkL (l : List (Nat × D)) : Bk := fun x => (l.find? fun p => decide (p.1 = x)).map (·.2)
theorem bkL_none {l : List (Nat × D)} {x : Nat} : bkL l x = none ↔ ∀ p ∈ l, p.1 ≠ x := by
  unfold bkL
  rw [Option.map_eq_none_iff, List.find?_eq_none]
  constructor
  · intro h p hp e
    have := h p hp
    simp [e] at this
  · intro h p hp
    simp [h p hp]
theorem bkL_mem {l : List (Nat × D)} (h : (l.map Prod.fst).Nodup) {x : Nat} {d : D} : bkL l x = some d ↔ (x, d) ∈ l := by
  induction l with
  | nil => simp [bkL]
  | cons p l ih =>
    rw [List.map_cons, List.nodup_cons] at h
    have e : bkL (p :: l) x = if p.1 = x then some p.2 else bkL l x := by
      unfold bkL
      rw [List.find?_cons]
      by_cases q : p.1 = x
      · simp [q]
      · simp [q]
    rw [e, List.mem_cons]
    by_cases q : p.1 = x
    · rw [if_pos q]
      constructor
      · intro z
        exact .inl (by rw [← q, ← Option.some.inj z])
      · rintro (z | z)
        · rw [← z]
        · exact absurd (List.mem_map.mpr ⟨_, z, q.symm⟩) h.1
    · rw [if_neg q, ih h.2]
      constructor
      · exact .inr
      · rintro (z | z)
        · rw [← z] at q
          exact absurd rfl q
        · exact z
theorem bkL_put {l : List (Nat × D)} {a : Nat} {d : D} (h : ∀ p ∈ l, p.1 ≠ a) : (bkL l).put a (some d) = bkL (l ++ [(a, d)]) := by
  funext x
  unfold Bk.put bkL
  rw [List.find?_append]
  by_cases q : x = a
  · subst q
    rw [if_pos rfl]
    have : l.find? (fun p => decide (p.1 = x)) = none := List.find?_eq_none.mpr fun p hp => by simp [h p hp]
    rw [this]
    simp
  · rw [if_neg q]
    have : [(a, d)].find? (fun p => decide (p.1 = x)) = none := by simp [Ne.symm q]
    rw [this]
    simp
abbrev RiseL (l : List (Nat × D)) : Prop := (l.map Prod.fst).Pairwise (· < ·)
theorem riseL_nodup {l : List (Nat × D)} (h : RiseL l) : (l.map Prod.fst).Nodup := h.imp fun q => Nat.ne_of_lt q
/-- an order of numbers less than n -/
def Ord (o : List Nat) (n : Nat) : Prop := o.Perm (List.range n)
theorem Ord.len {o : List Nat} {n : Nat} (h : Ord o n) : o.length = n := by
  have := h.length_eq
  rw [List.length_range] at this
  exact this
theorem Ord.lt {o : List Nat} {n i j : Nat} (h : Ord o n) (e : o[i]? = some j) : j < n := List.mem_range.mp (h.mem_iff.mp (List.mem_of_getElem? e))
theorem Ord.nd {o : List Nat} {n : Nat} (h : Ord o n) : o.Nodup := h.nodup_iff.mpr List.nodup_range
/-- the rows put in so far -/
def pre (rs : List (Nat × D)) (o : List Nat) (i : Nat) : List (Nat × D) := (o.take i).filterMap fun j => rs[j]?
/-! orders that are drawn -/
/-! comprehensions over lists of things made from things -/
section
variable {s : Sto} {ρ : En} {Q : D → Sto → Prop} {P : Sto → Prop} {β : Type} {f g : β → D} {l : List β} {it : IT} {te : GE} {tt : GT} {v : Nat} {a : GE}
theorem y_itseq {n : Nat} (h : seq? s n = some (l.map f)) : ∀ (i : Nat) (s' : Sto), Ext s s' → itSeq (.ref n) i s' = some (l.map f)[i]? := x_itseq h
theorem y_lcY (hit : ∀ (i : Nat) (s' : Sto), Ext s s' → it i s' = some (l.map f)[i]?) (hl : l.length ≤ 1000000)
    (he : ∀ p ∈ l, ∀ s', Ext s s' → te (ρ.set v (some (f p))) s' = .ok (g p) s')
    (h : ∀ s', Ext s s' → s.length < s'.length → lst? s' s.length = some (l.map g) → P s') : ∃ s2, lcG it (.one v) gYes te s.length ρ lots 0 (s ++ [.lst []]) = some s2 ∧ P s2 := by
  refine lc_wp (it := it) (t := .one v) (tt := gYes) (te := te) (n := s.length) (ρ := ρ) (P := P) l.length (fun i acc s' => s' = s ++ [.lst acc] ∧ acc = (l.take i).map g) ?_ ?_ lots 0 [] (s ++ [.lst []]) (Nat.zero_le _) (lots_ok hl 0) (by simp) ⟨rfl, rfl⟩
  · rintro i acc s' hi hs ⟨rfl, hacc⟩
    have hd : l[i]? = some l[i] := List.getElem?_eq_getElem hi
    have hm : l[i] ∈ l := List.getElem_mem hi
    generalize l[i] = x at hd hm
    refine ⟨f x, by rw [hit i _ .app, List.getElem?_map, hd]; rfl, _, rfl, ?_⟩
    have hal : acc.length ≤ i := by
      rw [hacc, List.length_map, List.length_take]
      omega
    show EW (.ok true _) _
    rw [ew_ok]
    refine ⟨fun hp => ?_, fun hp => nomatch hp⟩
    rw [he x hm _ .app, ew_ok]
    refine ⟨by simp, by show _ < 1000000; omega, by simp, ?_⟩
    rw [take_cons hd, List.map_append, ← hacc]
    simp
  · rintro acc s' hs ⟨rfl, hacc⟩
    refine ⟨by rw [hit _ _ .app, List.getElem?_eq_none (by rw [List.length_map]; exact Nat.le_refl _)], ?_⟩
    refine h _ .app (by simp) ?_
    rw [hacc, List.take_length]
    simp
theorem y_lcF {p : β → Bool} (hit : ∀ (i : Nat) (s' : Sto), Ext s s' → it i s' = some (l.map f)[i]?) (hl : l.length ≤ 1000000)
    (ht : ∀ x ∈ l, ∀ s', Ext s s' → tt (ρ.set v (some (f x))) s' = .ok (p x) s') (he : ∀ x ∈ l, ∀ s', Ext s s' → p x = true → te (ρ.set v (some (f x))) s' = .ok (g x) s')
    (h : ∀ s', Ext s s' → s.length < s'.length → lst? s' s.length = some ((l.filter p).map g) → P s') : ∃ s2, lcG it (.one v) tt te s.length ρ lots 0 (s ++ [.lst []]) = some s2 ∧ P s2 := by
  refine lc_wp (it := it) (t := .one v) (tt := tt) (te := te) (n := s.length) (ρ := ρ) (P := P) l.length (fun i acc s' => s' = s ++ [.lst acc] ∧ acc = ((l.take i).filter p).map g) ?_ ?_ lots 0 [] (s ++ [.lst []]) (Nat.zero_le _) (lots_ok hl 0) (by simp) ⟨rfl, rfl⟩
  · rintro i acc s' hi hs ⟨rfl, hacc⟩
    have hd : l[i]? = some l[i] := List.getElem?_eq_getElem hi
    have hm : l[i] ∈ l := List.getElem_mem hi
    generalize l[i] = x at hd hm
    refine ⟨f x, by rw [hit i _ .app, List.getElem?_map, hd]; rfl, _, rfl, ?_⟩
    have hal : acc.length ≤ i := by
      rw [hacc, List.length_map]
      refine Nat.le_trans (List.length_filter_le ..) ?_
      rw [List.length_take]
      omega
    rw [ht x hm _ .app, ew_ok]
    refine ⟨fun hp => ?_, fun hp => ?_⟩
    · rw [he x hm _ .app hp, ew_ok]
      refine ⟨by simp, by show _ < 1000000; omega, by simp, ?_⟩
      rw [take_cons hd, List.filter_append, List.map_append, ← hacc]
      simp [hp]
    · refine ⟨by simp, rfl, ?_⟩
      rw [take_cons hd, List.filter_append, List.map_append, ← hacc]
      simp [hp]
  · rintro acc s' hs ⟨rfl, hacc⟩
    refine ⟨by rw [hit _ _ .app, List.getElem?_eq_none (by rw [List.length_map]; exact Nat.le_refl _)], ?_⟩
    refine h _ .app (by simp) ?_
    rw [hacc, List.take_length]
    simp
end
end PD

/-! Pe1 (printed by mkpe1.py): the wp calculus with continuations that simp does not enter. -/
namespace PD
open PySem L2
inductive Un {α : Type} (a : α) : Type where
  | mk
def xE {β : Type} (r : Res β) (Q : β → Sto → Prop) (_u : Un Q := .mk) : Prop := EW r Q
def xS (r : RS) (N : En → Sto → Prop) (R : D → Sto → Prop) (B C : En → Sto → Prop) (_u : Un N := .mk) (_v : Un R := .mk) (_w : Un B := .mk) (_x : Un C := .mk) : Prop := SW r N R B C
def xB (x : Bool) (A B : Prop) (_u : Un A := .mk) (_v : Un B := .mk) : Prop := Br x A B
def xO {β : Type} (o : Option β) (Q : β → Prop) (_u : Un Q := .mk) : Prop := WO o Q
def xD (d : D) (Q : Bool → Prop) (_u : Un Q := .mk) : Prop := WB d Q
def xI (x : D) (s : Sto) (P : IT → Prop) (_u : Un P := .mk) : Prop := WI x s P
def xM (m : Str) (tab : List (Str × Fn)) (x : D) (s : Sto) (P : Fn → Prop) (_u : Un P := .mk) : Prop := MW m tab x s P
/-- a whole number, a text is there; a list comes of it -/
def xN (x : D) (P : Int → Prop) (_u : Un P := .mk) : Prop := ∃ i, x = .int i ∧ P i
def xT (x : D) (P : Str → Prop) (_u : Un P := .mk) : Prop := ∃ z, x = .str z ∧ P z
def xL (o : Option Sto) (P : Sto → Prop) (_u : Un P := .mk) : Prop := ∃ s2, o = some s2 ∧ P s2
/-- a condition, and what follows -/
def xC (c : Prop) (P : Prop) (_u : Un P := .mk) : Prop := c ∧ P
def xF (x : D) (s : Sto) (cs : List Str) (f : Str) (P : D → Prop) (_u : Un P := .mk) : Prop := ∃ c fs d, ins? s x = some (c, fs) ∧ c ∈ cs ∧ fldD fs f = some d ∧ P d
theorem if_int {i : Int} {P : Int → Prop} : xN (.int i) P ↔ P i := ⟨fun ⟨j, e, h⟩ => by cases e; exact h, fun h => ⟨i, rfl, h⟩⟩
theorem tf_str {z : Str} {P : Str → Prop} : xT (.str z) P ↔ P z := ⟨fun ⟨j, e, h⟩ => by cases e; exact h, fun h => ⟨z, rfl, h⟩⟩
theorem cf_true {P : Prop} : xC True P ↔ P := ⟨fun q => q.2, fun q => ⟨trivial, q⟩⟩
theorem mf_of {m : Str} {tab : List (Str × Fn)} {x : D} {s : Sto} {P : Fn → Prop} {c : Str} {fs : List (Str × D)} {fn : Fn} (hi : ins? s x = some (c, fs)) (ht : tab.find? (fun q => decide (q.1 = c)) = some (c, fn)) (hf : fldD fs m = none) : xM m tab x s P ↔ P fn := mw_of hi ht hf
section
variable {β γ : Type} {ρ ρ' : En} {s s' s1 : Sto} {N B C : En → Sto → Prop} {R : D → Sto → Prop} {Q : D → Sto → Prop}
variable {a b c o i : GE} {gl : GA} {t u : GT} {gs gr : GS} {op op' : Op2}
theorem to_ef {r : Res β} {Q : β → Sto → Prop} : EW r Q ↔ xE r Q := Iff.rfl
theorem to_sf {r : RS} : SW r N R B C ↔ xS r N R B C := Iff.rfl
theorem to_bf {x : Bool} {A B : Prop} : Br x A B ↔ xB x A B := Iff.rfl
theorem to_of {o : Option β} {Q : β → Prop} : WO o Q ↔ xO o Q := Iff.rfl
theorem to_df {d : D} {Q : Bool → Prop} : WB d Q ↔ xD d Q := Iff.rfl
theorem to_vf {d : D} {P : IT → Prop} : WI d s P ↔ xI d s P := Iff.rfl
theorem to_mf {m : Str} {tab : List (Str × Fn)} {x : D} {P : Fn → Prop} : MW m tab x s P ↔ xM m tab x s P := Iff.rfl
@[simp] theorem bf_t {A B : Prop} : xB true A B ↔ A := Iff.rfl
@[simp] theorem bf_f {A B : Prop} : xB false A B ↔ B := Iff.rfl
theorem bf_n {x : Bool} {A B : Prop} : xB (!x) A B ↔ xB x B A := br_n
theorem df_bl {k : Bool} {Q : Bool → Prop} : xD (.bl k) Q ↔ Q k := Iff.rfl
theorem of_some {k : β} {Q : β → Prop} : xO (some k) Q ↔ Q k := Iff.rfl
theorem vf_str {z : Str} {P : IT → Prop} : xI (.str z) s P ↔ P (itTxt z) := wi_str
theorem vf_tup {l : List D} {P : IT → Prop} : xI (.tup l) s P ↔ P (itSeq (.tup l)) := wi_tup
theorem vf_ref {n : Nat} {l : List D} {P : IT → Prop} (h : seq? s n = some l) : xI (.ref n) s P ↔ P (itSeq (.ref n)) := wi_ref h
theorem ef_part {Q : Option Int → Sto → Prop} : xE (gPart a ρ s) Q ↔ xE (a ρ s) fun x s1 => xN x fun i => Q (some i) s1 := ew_part
theorem ef_bits : xE (gBits a ρ s) Q ↔ xE (a ρ s) fun x s1 => xN x fun i => Q (.int (Builtin.Int.intBits i : Nat)) s1 := ew_bits
theorem ef_tup : xE (gTup gl ρ s) Q ↔ xE (gl ρ s) fun l s1 => xC (l.length ≤ 1000000) (Q (.tup l) s1) := ew_tup
theorem ef_lm {op : OpM} : xE (gLM op a gl ρ s) Q ↔ xE (a ρ s) fun x s1 => xC (isL s1 x = true) (xE (gl ρ s1) fun l s2 => xE (op x l s2) Q) := ew_lm
theorem ef_sm {op : OpM} : xE (gSM op a b ρ s) Q ↔ xE (a ρ s) fun x s1 => xT x fun z => xE (b ρ s1) fun y s2 => xE (op (.str z) [y] s2) Q := ew_sm
theorem ef_sm0 {op : OpM} : xE (gSM0 op a ρ s) Q ↔ xE (a ρ s) fun x s1 => xT x fun z => xE (op (.str z) [] s1) Q := ew_sm0
theorem ef_get1 : xE (gGet1 a b ρ s) Q ↔ xE (a ρ s) fun x s1 => xC (isDk s1 x = true) (xE (b ρ s1) fun k s2 => xE (getOf x k .non s2) Q) := ew_get1
theorem ef_get2 : xE (gGet2 a b c ρ s) Q ↔ xE (a ρ s) fun x s1 => xC (isDk s1 x = true) (xE (b ρ s1) fun k s2 => xE (c ρ s2) fun y s3 => xE (getOf x k y s3) Q) := ew_get2
theorem ef_fld {cs : List Str} {f : Str} : xE (gFld cs f a ρ s) Q ↔ xE (a ρ s) fun x s1 => xF x s1 cs f fun d => Q d s1 := ew_fld
theorem ef_rng1 {Q : IT → Sto → Prop} : xE (gRng1 a ρ s) Q ↔ xE (a ρ s) fun x s1 => xN x fun j => xC (rngOk j = true) (Q (itRng 0 j.toNat) s1) := ew_rng1
theorem ef_rng2 {Q : IT → Sto → Prop} : xE (gRng2 a b ρ s) Q ↔ xE (a ρ s) fun x s1 => xE (b ρ s1) fun y s2 => xN x fun i => xN y fun j => xC (rngOk i = true) (xC (rngOk j = true) (Q (itRng i (j - i).toNat) s2)) := by
  refine ew_rng2.trans (iff_of_eq ?_)
  show EW _ _ = EW _ _
  congr 1
  funext x s1
  congr 1
  funext y s2
  apply propext
  constructor
  · rintro ⟨i, j, rfl, rfl, h1, h2, q⟩
    exact ⟨i, rfl, j, rfl, h1, h2, q⟩
  · rintro ⟨i, rfl, j, rfl, h1, h2, q⟩
    exact ⟨i, j, rfl, rfl, h1, h2, q⟩
theorem ef_lc {fi : FI} {t : CT} {tt : GT} {te : GE} {vs : List Nat} : xE (gLc fi t tt te vs ρ s) Q ↔ xE (fi ρ s) fun it s1 => xL (lcG it t tt te s1.length (wipeD ρ vs) lots 0 (s1 ++ [.lst []])) fun s2 => Q (.ref s1.length) s2 := ew_lc
theorem sf_par2 {i j : Nat} : xS (gPar i j (gCons a (gCons b gNil)) ρ s) N R B C ↔ xE (a ρ s) fun x s1 => xE (b ρ s1) fun y s2 => N ((ρ.set i (some x)).set j (some y)) s2 := by
  refine sw_par.trans ?_
  rw [ew_cons]
  refine iff_of_eq ?_
  show EW _ _ = EW _ _
  congr 1
  funext x s1
  rw [ew_cons]
  show EW _ _ = EW _ _
  congr 1
  funext y s2
  show (∃ x' y', [x, y] = [x', y'] ∧ _) = _
  apply propext
  constructor
  · rintro ⟨x', y', e, q⟩
    cases e
    exact q
  · exact fun q => ⟨x, y, rfl, q⟩
theorem tupT2 {x y : D} {i j : Nat} : gTupT 2 (gTCons (gName_ i) (gTCons (gName_ j) gTNil)) (.tup [x, y]) ρ s = some ((ρ.set i (some x)).set j (some y), s) := rfl
theorem tupT3 {x y z : D} {i j k : Nat} : gTupT 3 (gTCons (gName_ i) (gTCons (gName_ j) (gTCons (gName_ k) gTNil))) (.tup [x, y, z]) ρ s = some (((ρ.set i (some x)).set j (some y)).set k (some z), s) := rfl
theorem ef_ix_ref {n : Nat} {l : List D} {i : Int} (h : seq? s n = some l) : xE (ixD (.ref n) (.int i) s) Q ↔ xO (atI l i) fun d => Q d s := ew_ix_ref h
theorem ef_len_ref {n : Nat} {l : List D} (h : seq? s n = some l) : xE (lenD [.ref n] s) Q ↔ Q (.int l.length) s := ew_len_ref h
theorem ef_ix_tup {l : List D} {i : Int} : xE (ixD (.tup l) (.int i) s) Q ↔ xO (atI l i) fun d => Q d s := ew_ix_tup
theorem ef_ok {d : β} {Q : β → Sto → Prop} : xE (.ok d s) Q ↔ Q d s := ew_ok
theorem sf_nx : xS (.nx ρ s) N R B C ↔ N ρ s := sw_nx
theorem sf_rt {d : D} : xS (.rt d s) N R B C ↔ R d s := sw_rt
theorem sf_bk : xS (.bk ρ s) N R B C ↔ B ρ s := sw_bk
theorem sf_ct : xS (.ct ρ s) N R B C ↔ C ρ s := sw_ct
theorem sf_next {r : RS} {k : En → Sto → RS} : xS (r.next k) N R B C ↔ xS r (fun ρ s => xS (k ρ s) N R B C) R B C := sw_next
theorem ef_var {i : Nat} : xE (gVar i ρ s) Q ↔ xO ρ[i]? fun o => xO o fun d => Q d s := ew_var
theorem ef_c {d : D} : xE (gC d ρ s) Q ↔ Q d s := ew_c
theorem ef_op : xE (gOp op a b ρ s) Q ↔ xE (a ρ s) fun x s1 => xE (b ρ s1) fun y s2 => xE (op x y s2) Q := ew_op
theorem ef_quiet {x y : D} : xE (quiet op x y s) Q ↔ xE (op x y s) Q := ew_quiet
theorem ef_un {op : D → Sto → Res D} : xE (gUn op a ρ s) Q ↔ xE (a ρ s) fun x s1 => xE (op x s1) Q := ew_un
theorem ef_T {Q : Bool → Sto → Prop} : xE (gT a ρ s) Q ↔ xE (a ρ s) fun x s1 => xO (tru? s1 x) fun k => Q k s1 := ew_T
theorem ef_Tb {Q : Bool → Sto → Prop} : xE (gTb a ρ s) Q ↔ xE (a ρ s) fun x s1 => xD x fun k => Q k s1 := ew_Tb
theorem ef_not {Q : Bool → Sto → Prop} : xE (gNot t ρ s) Q ↔ xE (t ρ s) fun x s1 => Q (!x) s1 := ew_not
theorem ef_and {Q : Bool → Sto → Prop} : xE (gAnd t u ρ s) Q ↔ xE (t ρ s) fun x s1 => xB x (xE (u ρ s1) Q) (Q false s1) := ew_and
theorem ef_or {Q : Bool → Sto → Prop} : xE (gOr t u ρ s) Q ↔ xE (t ρ s) fun x s1 => xB x (Q true s1) (xE (u ρ s1) Q) := ew_or
theorem ef_andV : xE (gAndV a b ρ s) Q ↔ xE (a ρ s) fun x s1 => xD x fun k => xB k (xE (b ρ s1) Q) (Q (.bl false) s1) := ew_andV
theorem ef_orV : xE (gOrV a b ρ s) Q ↔ xE (a ρ s) fun x s1 => xD x fun k => xB k (Q (.bl true) s1) (xE (b ρ s1) Q) := ew_orV
theorem ef_notV : xE (gNotV a ρ s) Q ↔ xE (a ρ s) fun x s1 => xD x fun k => Q (.bl (!k)) s1 := ew_notV
theorem ef_ifE : xE (gIfE t a b ρ s) Q ↔ xE (t ρ s) fun x s1 => xB x (xE (a ρ s1) Q) (xE (b ρ s1) Q) := ew_ifE
theorem ef_chain : xE (gChain op op' a b c ρ s) Q ↔ xE (a ρ s) fun x s1 => xE (b ρ s1) fun y s2 => xE (op x y s2) fun z s3 => xD z fun k => xB k (xE (c ρ s3) fun w s4 => xE (op' y w s4) Q) (Q (.bl false) s3) := ew_chain
theorem ef_isI {T : Ty} : xE (gIsI T a ρ s) Q ↔ xE (a ρ s) fun x s1 => xO (tyOf s1 x) fun k => Q (.bl (k.is T)) s1 := ew_isI
theorem ef_nil {Q : List D → Sto → Prop} : xE (gNil ρ s) Q ↔ Q [] s := ew_nil
theorem ef_cons {Q : List D → Sto → Prop} : xE (gCons a gl ρ s) Q ↔ xE (a ρ s) fun x s1 => xE (gl ρ s1) fun l s2 => Q (x :: l) s2 := ew_cons
theorem ef_call {m : Fn} : xE (gCall m gl ρ s) Q ↔ xE (gl ρ s) fun l s1 => xE (m l s1) Q := ew_call
theorem ef_cb {op : OpC} : xE (gCB op gl ρ s) Q ↔ xE (gl ρ s) fun l s1 => xE (op l s1) Q := ew_cb
theorem ef_noPart {Q : Option Int → Sto → Prop} : xE (gNoPart ρ s) Q ↔ Q none s := ew_noPart
theorem ef_sl {lo hi : FO} : xE (gSl a lo hi ρ s) Q ↔ xE (a ρ s) fun x s1 => xE (lo ρ s1) fun l s2 => xE (hi ρ s2) fun h s3 => xE (slD x l h s3) Q := ew_sl
theorem ef_meth {m : Str} {tab : List (Str × Fn)} : xE (gMeth m tab a gl ρ s) Q ↔ xE (a ρ s) fun x s1 => xM m tab x s1 fun fn => xE (gl ρ s1) fun l s2 => xE (fn (x :: l) s2) Q := ew_meth
theorem sf_skip : xS (gSkip ρ s) N R B C ↔ N ρ s := sw_skip
theorem sf_seq : xS (gSeq gs gr ρ s) N R B C ↔ xS (gs ρ s) (fun ρ s => xS (gr ρ s) N R B C) R B C := sw_seq
theorem sf_break : xS (gBreak ρ s) N R B C ↔ B ρ s := sw_break
theorem sf_cont : xS (gCont ρ s) N R B C ↔ C ρ s := sw_cont
theorem sf_expr : xS (gExpr a ρ s) N R B C ↔ xE (a ρ s) fun _ s1 => N ρ s1 := sw_expr
theorem sf_ret : xS (gRet a ρ s) N R B C ↔ xE (a ρ s) R := sw_ret
theorem sf_retN : xS (gRetN ρ s) N R B C ↔ R .non s := sw_retN
theorem sf_if : xS (gIf t gs gr ρ s) N R B C ↔ xE (t ρ s) fun x s1 => xB x (xS (gs ρ s1) N R B C) (xS (gr ρ s1) N R B C) := sw_if
theorem sf_set {i : Nat} : xS (gSet i a ρ s) N R B C ↔ xE (a ρ s) fun x s1 => N (ρ.set i (some x)) s1 := sw_set
theorem sf_asg {g : FG} : xS (gAsg a g ρ s) N R B C ↔ xE (a ρ s) fun x s1 => xO (g x ρ s1) fun w => N w.1 w.2 := sw_asg
theorem sf_put : xS (gPut o i a ρ s) N R B C ↔ xE (a ρ s) fun v s1 => xE (o ρ s1) fun x s2 => xE (i ρ s2) fun k s3 => xO (putO x k v s3) fun s' => N ρ s' := sw_put
theorem sf_aug {i : Nat} : xS (gAug i op a ρ s) N R B C ↔ xO ρ[i]? fun o => xO o fun d => xE (a ρ s) fun y s1 => xE (op d y s1) fun z s2 => N (ρ.set i (some z)) s2 := sw_aug
theorem sf_for {fi : FI} {g : FG} {b : GS} : xS (gFor fi g b ρ s) N R B C ↔ xE (fi ρ s) fun it s1 => xS (forG it g b lots 0 ρ s1) N R B C := sw_for
theorem ef_itA {Q : IT → Sto → Prop} : xE (gItA a ρ s) Q ↔ xE (a ρ s) fun x s1 => xI x s1 fun it => Q it s1 := ew_itA
theorem ef_rev {Q : IT → Sto → Prop} : xE (gRev a ρ s) Q ↔ xE (a ρ s) fun x s1 => ∃ n l, x = .ref n ∧ seq? s1 n = some l ∧ Q (itRev n l.length) s1 := ew_rev
end
end PD

/-! Pe2: lists that lose or win things; where two books differ. -/
namespace PD
open PySem L2
section
variable {s s' : Sto} {Q : D → Sto → Prop} {l l' : List D} {n m : Nat} {d : D} {kvs : List (Key × D)}
theorem y_pop (h : lst? s n = some (l ++ [d])) (k : ∀ s', ExtX n s s' → s'.length = s.length → lst? s' n = some l → Q d s') : EW (popD (.ref n) [] s) Q := by
  have e : popD (.ref n) [] s = .ok d (s.set n (.lst l)) := by
    unfold popD
    simp only [h]
    simp
  rw [e]
  exact k _ .of (List.length_set ..) (lst_set_self (lst_lt h))
theorem tru_ref_ (h : seq? s n = some l) : tru? s (.ref n) = some (!l.isEmpty) := tru_ref h
end
/-! rising lists of numbers -/
/-! where two books differ -/
theorem row_pos : ∀ t : Tr, 0 < t.row.length
  | .lf a d => by simp [Tr.row]
  | .kn lo b l r => by
    have := row_pos l
    show 0 < (l.row ++ r.row).length
    rw [List.length_append]
    omega
/-! equality of trees -/
theorem eqv_tup (l l' : List D) : eqB (.tup l) (.tup l') = PyData.eqvAll (toPs l) (toPs l') := by
  unfold eqB
  rw [toP, toP, PyData.eqv]
theorem eqv_cons (d d' : D) (l l' : List D) : PyData.eqvAll (toPs (d :: l)) (toPs (d' :: l')) = (eqB d d' && PyData.eqvAll (toPs l) (toPs l')) := by
  unfold eqB
  rw [toPs, toPs, PyData.eqvAll]
theorem eqB_int (i j : Int) : eqB (.int i) (.int j) = decide (i = j) := by
  unfold eqB
  by_cases h : i = j
  · subst h
    simp [toP, PyData.eqv]
  · simp [toP, PyData.eqv, h]
theorem pow_inj {a b : Nat} (h : 2 ^ a = 2 ^ b) : a = b := Nat.le_antisymm (pow_le_iff.mp (Nat.le_of_eq h)) (pow_le_iff.mp (Nat.le_of_eq h.symm))
theorem dt_eqB (ki : KI) : ∀ {t u : Tr}, Tr.all (fun d => nbT d = true) t → Tr.all (fun d => nbT d = true) u → (eqB (t.dt ki) (u.dt ki) = true ↔ t = u)
  | .lf a d, .lf a' d', h, h' => by
    constructor
    · intro e
      unfold Tr.dt at e
      rw [eqv_tup, eqv_cons, eqv_cons, eqv_cons, eqv_cons, eqB_int] at e
      simp only [Bool.and_eq_true, decide_eq_true_eq] at e
      obtain ⟨e1, _, _, e2, _⟩ := e
      rw [(eqB_t h h').mp e2, show a = a' by omega]
    · intro e; rw [e]; exact eqB_refl _
  | .lf a d, .kn lo b l r, h, h' => by
    constructor
    · intro e
      unfold Tr.dt at e
      rw [eqv_tup, eqv_cons, eqv_cons, eqv_cons, eqv_cons] at e
      simp [toPs, PyData.eqvAll] at e
    · intro e; cases e
  | .kn lo b l r, .lf a d, h, h' => by
    constructor
    · intro e
      unfold Tr.dt at e
      rw [eqv_tup, eqv_cons, eqv_cons, eqv_cons, eqv_cons] at e
      simp [toPs, PyData.eqvAll] at e
    · intro e; cases e
  | .kn lo b l r, .kn lo' b' l' r', h, h' => by
    constructor
    · intro e
      have e0 := e
      unfold Tr.dt at e
      rw [eqv_tup, eqv_cons, eqv_cons, eqv_cons, eqv_cons, eqv_cons, eqB_int, eqB_int] at e
      simp only [Bool.and_eq_true, decide_eq_true_eq] at e
      obtain ⟨e1, e2, _, e3, e4, _⟩ := e
      rw [(dt_eqB ki h.1 h'.1).mp e3, (dt_eqB ki h.2 h'.2).mp e4, pow_inj (show 2 ^ b = 2 ^ b' by omega), show lo = lo' by omega]
    · intro e; rw [e]; exact eqB_refl _
theorem eqB_nt (t : Tr) (ki : KI) : eqB .non (t.dt ki) = false ∧ eqB (t.dt ki) .non = false := by
  rw [t.form ki]
  unfold eqB
  simp [toP, PyData.eqv]
theorem oD_eqB (ki : KI) {t u : Option Tr} (h : ∀ v, t = some v → Tr.all (fun d => nbT d = true) v) (h' : ∀ v, u = some v → Tr.all (fun d => nbT d = true) v) : eqB (oD ki t) (oD ki u) = true ↔ t = u := by
  cases t with
  | none =>
    cases u with
    | none => exact ⟨fun _ => rfl, fun _ => eqB_refl _⟩
    | some u =>
      rw [oD_none, oD_some, (eqB_nt u ki).1]
      simp
  | some t =>
    cases u with
    | none =>
      rw [oD_none, oD_some, (eqB_nt t ki).2]
      simp
    | some u =>
      rw [oD_some, oD_some, dt_eqB ki (h t rfl) (h' u rfl), Option.some.injEq]
/-! comprehensions over tuples -/
section
variable {s : Sto} {ρ : En} {P : Sto → Prop} {β : Type} {r : β → List D} {g : β → D} {l : List β} {it : IT} {te : GE} {tt : GT} {is : List Nat}
theorem ne_two {a b c d : Int} : neD (.tup [.int a, .int b]) (.tup [.int c, .int d]) s = .ok (.bl (!decide (a = c ∧ b = d))) s := by
  rw [neD_ok (by rfl) (by rfl)]
  congr 3
  rw [Bool.eq_iff_iff, eqB_t (by rfl) (by rfl), decide_eq_true_eq]
  simp
end
end PD

/-! Pe3: dicts: popped, copied, walked; sorted lists of numbers. -/
namespace PD
open PySem L2
section
variable {s s' s1 s2 : Sto} {Q : D → Sto → Prop} {P : Sto → Prop} {l l' : List D} {n m i : Nat} {d x : D} {kvs : List (Key × D)} {kk : Key} {o a : GE} {ρ : En} {N B C : En → Sto → Prop} {R : D → Sto → Prop} {g : GS} {ge : GE} {f : Bk}
theorem y_dpop (ho : ∀ s', o ρ s' = .ok (.ref n) s') (ha : ∀ s', a ρ s' = .ok x s') (h : dw? s n = some kvs) (hk : key? x = some kk) (hv : valD kvs kk = some d) (k : ∀ s', ExtX n s s' → s'.length = s.length → dw? s' n = some (dropD kvs kk) → Q d s') : EW (gPop1 o a ρ s) Q := by
  have hD := isDk_ (dk_of_dw h)
  have e : gPop1 o a ρ s = .ok d (s.set n (.dk (dropD kvs kk))) := by
    unfold gPop1
    rw [ho]
    simp only [hD, if_true]
    unfold gDPop
    rw [ho]
    show (if isDk s (.ref n) = true then (a ρ s).bind fun k s2 => dpopD (.ref n) k s2 else .bad) = _
    rw [hD, if_pos rfl, ha]
    show dpopD (.ref n) x s = _
    unfold dpopD
    simp only [hk, h, hv]
  rw [e]
  exact k _ .of (List.length_set ..) (dw_set_self (dw_lt h))
/-- a dict's keys, whole numbers -/
theorem DR.keysN (h : DR kvs f) : ∃ ks : List Nat, (kvs.map fun kv => kD kv.1) = ks.map tD ∧ ks.Nodup ∧ ks.length = kvs.length ∧ ∀ x, x ∈ ks ↔ f x ≠ none := by
  have key : ∀ l : List (Key × D), (∀ k ∈ l.map (·.1), ∃ x : Nat, x < T30 ∧ k = .inl (x : Int)) → ∃ ks : List Nat, l.map (·.1) = ks.map fun x : Nat => (.inl (x : Int) : Key) := by
    intro l
    induction l with
    | nil => exact fun _ => ⟨[], rfl⟩
    | cons p r ih =>
      intro hk
      obtain ⟨ks, h1⟩ := ih fun k q => hk k (List.mem_cons_of_mem _ q)
      obtain ⟨x, _, h3⟩ := hk p.1 (List.mem_cons_self ..)
      exact ⟨x :: ks, by rw [List.map_cons, List.map_cons, h1, h3]⟩
  obtain ⟨ks, hks⟩ := key kvs h.key
  refine ⟨ks, ?_, ?_, ?_, fun x => ?_⟩
  · have e : (kvs.map fun kv => kD kv.1) = (kvs.map (·.1)).map kD := by rw [List.map_map]; rfl
    rw [e, hks, List.map_map]
    rfl
  · have h1 := h.nd
    rw [hks] at h1
    exact List.Pairwise.of_map _ (fun a b hab e => hab (by rw [e])) h1
  · have := congrArg List.length hks
    rw [List.length_map, List.length_map] at this
    exact this.symm
  · have h1 := h.val x
    rw [← h1, Ne, valD_none, hks, List.mem_map]
    constructor
    · exact fun q z => z ⟨x, q, rfl⟩
    · intro z
      obtain ⟨y, hy, e⟩ := Classical.not_not.mp z
      have : (y : Int) = (x : Int) := by injection e
      rw [show x = y by omega]
      exact hy
/-! a walk over a dict -/
theorem y_lock (hρ : ρ[i]? = some (some (.ref n))) (h : dw? s n = some kvs)
    (k : ∀ s', ExtX n s s' → s'.length = s.length → lk? s' n = some kvs → SW (g ρ s') (fun ρ' s'' => lk? s'' n = some kvs ∧ ∀ s3, ExtX n s'' s3 → s3.length = s''.length → dw? s3 n = some kvs → N ρ' s3) (fun d s'' => lk? s'' n = some kvs ∧ ∀ s3, ExtX n s'' s3 → s3.length = s''.length → dw? s3 n = some kvs → R d s3) (fun _ _ => False) (fun _ _ => False)) : SW (gLockS i g ρ s) N R B C := by
  have e0 : s[n]? = some (.dk kvs) := by
    unfold dw? at h
    cases e : s[n]? with
    | none => rw [e] at h; cases h
    | some o => cases o <;> rw [e] at h <;> first | (cases h; rfl) | cases h
  have e : gLockS i g ρ s = (g ρ (s.set n (.lk kvs))).unlk n := by
    unfold gLockS
    simp only [hρ, e0]
  rw [e]
  have hl : lk? (s.set n (.lk kvs)) n = some kvs := by
    unfold lk?
    rw [List.getElem?_set_self (dw_lt h)]
  have q := k _ .of (List.length_set ..) hl
  have back : ∀ {s'' : Sto}, lk? s'' n = some kvs → s''[n]? = some (.lk kvs) := by
    intro s'' hh
    unfold lk? at hh
    cases e : s''[n]? with
    | none => rw [e] at hh; cases hh
    | some o => cases o <;> rw [e] at hh <;> first | (cases hh; rfl) | cases hh
  cases r : g ρ (s.set n (.lk kvs)) with
  | nx ρ' s'' =>
    rw [r] at q
    obtain ⟨q1, q2⟩ := q
    unfold RS.unlk
    simp only [back q1]
    exact q2 _ .of (List.length_set ..) (dw_set_self (lk_lt q1))
  | rt d s'' =>
    rw [r] at q
    obtain ⟨q1, q2⟩ := q
    unfold RS.unlk
    simp only [back q1]
    exact q2 _ .of (List.length_set ..) (dw_set_self (lk_lt q1))
  | bk ρ' s'' => rw [r] at q; exact q.elim
  | ct ρ' s'' => rw [r] at q; exact q.elim
  | err ee ρ' s'' => rw [r] at q; exact q.elim
  | bad => rw [r] at q; exact q.elim
theorem ef_keys {Q : IT → Sto → Prop} (hρ : ρ[i]? = some (some (.ref n))) (h : lk? s n = some kvs) : xE (gKeys i ρ s) Q ↔ Q (itKeys kvs) s := by
  have hb : s[n]? = some (.lk kvs) := by
    unfold lk? at h
    cases e : s[n]? with
    | none => rw [e] at h; cases h
    | some o => cases o <;> rw [e] at h <;> first | (cases h; rfl) | cases h
  have e : gKeys i ρ s = .ok (itKeys kvs) s := by
    unfold gKeys
    simp only [hρ, hb]
  rw [e]
  exact Iff.rfl
/-- a loop over what is fixed -/
theorem y_forC {β : Type} {f : β → D} {l : List β} {it : IT} {j : Nat} {b : GS} (hit : ∀ (i : Nat) (s : Sto), it i s = some (l.map f)[i]?) (I : Nat → En → Sto → Prop) (hl : l.length ≤ 1000000)
    (step : ∀ i ρ s p, l[i]? = some p → i < l.length → I i ρ s → SW (b (ρ.set j (some (f p))) s) (I (i + 1)) R N (I (i + 1)))
    (stop : ∀ ρ s, I l.length ρ s → N ρ s) (h : I 0 ρ s) : SW (forG it (gName_ j) b lots 0 ρ s) N R B C := by
  refine for_wp l.length I ?_ ?_ lots 0 ρ s (Nat.zero_le _) (lots_ok (show l.length ≤ line from hl) _) h
  · intro i ρ s hi h
    have hd : l[i]? = some l[i] := List.getElem?_eq_getElem hi
    refine ⟨f l[i], by rw [hit, List.getElem?_map, hd]; rfl, _, rfl, step i ρ s _ hd hi h⟩
  · intro ρ s h
    exact ⟨by rw [hit, List.getElem?_eq_none (by rw [List.length_map]; exact Nat.le_refl _)], stop ρ s h⟩
theorem it_keys {ks : List Nat} (h : (kvs.map fun kv => kD kv.1) = ks.map tD) : ∀ (i : Nat) (s : Sto), itKeys kvs i s = some (ks.map tD)[i]? := fun i s => by
  unfold itKeys
  rw [h]
end
end PD

/-! Pe4: stores that grow and of which one thing changes. -/
namespace PD
open PySem L2
/-- what is there stays, but for the thing m -/
def ExtM (m : Nat) (s s' : Sto) : Prop := s.length ≤ s'.length ∧ ∀ n, n < s.length → n ≠ m → s'[n]? = s[n]?
section
variable {s s0 s1 s2 s3 s' t : Sto} {l : List D} {n m k : Nat} {kvs : List (Key × D)} {c : Str} {fs : List (Str × D)}
theorem ExtX.toM (x : ExtX m s s') : ExtM m s s' := ⟨Nat.le_of_eq x.1.symm, fun n _ h => x.2 n h⟩
theorem Ext.toM (x : Ext s s') : ExtM m s s' := by
  obtain ⟨t, rfl⟩ := x
  exact ⟨by simp, fun n h _ => List.getElem?_append_left h⟩
theorem ExtM.trans (x : ExtM m s1 s2) (y : ExtM m s2 s3) : ExtM m s1 s3 := ⟨Nat.le_trans x.1 y.1, fun n h g => (y.2 n (Nat.lt_of_lt_of_le h x.1) g).trans (x.2 n h g)⟩
theorem ExtM.refl : ExtM m s s := ⟨Nat.le_refl _, fun _ _ _ => rfl⟩
theorem ExtM.e (x : ExtM m s1 s2) (y : Ext s2 s3) : ExtM m s1 s3 := x.trans y.toM
theorem ExtM.x (x : ExtM m s1 s2) (y : ExtX m s2 s3) : ExtM m s1 s3 := x.trans y.toM
theorem ExtM.o (x : ExtM m s1 s2) (y : ExtX k s2 s3) (h : s1.length ≤ k) : ExtM m s1 s3 := ⟨Nat.le_trans x.1 (Nat.le_of_eq y.1.symm), fun n h1 g => (y.2 n (by omega)).trans (x.2 n h1 g)⟩
theorem ExtM.sq (x : ExtM m s s') (h : n ≠ m) (e : seq? s n = some l) : seq? s' n = some l := by
  have := seq_lt e
  unfold seq? at e ⊢
  rw [x.2 n this h]
  exact e
theorem ExtM.ls (x : ExtM m s s') (h : n ≠ m) (e : lst? s n = some l) : lst? s' n = some l := by
  have := lst_lt e
  unfold lst? at e ⊢
  rw [x.2 n this h]
  exact e
theorem ExtM.dw (x : ExtM m s s') (h : n ≠ m) (e : dw? s n = some kvs) : dw? s' n = some kvs := by
  have := dw_lt e
  unfold dw? at e ⊢
  rw [x.2 n this h]
  exact e
theorem ExtM.ins (x : ExtM m s s') (h : n ≠ m) (e : ins? s (.ref n) = some (c, fs)) : ins? s' (.ref n) = some (c, fs) := by
  have := ins_lt e
  unfold ins? at e ⊢
  dsimp only at e ⊢
  rw [x.2 n this h]
  exact e
/-- of a store ahead of m, all stays -/
theorem ExtM.ext (x : ExtM m s s') (h : Ext s0 s) (g : s0.length ≤ m) : Ext s0 s' := by
  obtain ⟨t, rfl⟩ := h
  refine ⟨s'.drop s0.length, ?_⟩
  have h1 := x.1
  rw [List.length_append] at h1
  have : s'.take s0.length = s0 := by
    apply List.ext_getElem?
    intro i
    rcases Nat.lt_or_ge i s0.length with hi | hi
    · rw [List.getElem?_take_of_lt hi, x.2 i (by rw [List.length_append]; omega) (by omega), List.getElem?_append_left hi]
    · rw [List.getElem?_eq_none (by rw [List.length_take]; omega), List.getElem?_eq_none hi]
  conv => lhs; rw [← List.take_append_drop s0.length s', this]
/-! a list from its end -/
/-! texts, and what stands in a list -/
variable {z z' : Str} {lo hi : Option Int} {x : D} {i : Int} {Q : D → Sto → Prop}
end
end PD

/-! Pe5: bags, plain: a row done deed by deed is its two parts joined. -/
namespace PD
open PySem L2
abbrev PP := Int × Int
/-- a deed of a bag -/
inductive BD | put (p : PP) | take | no
/-! the program's side -/
section
variable {s : Sto} {n : Nat} {l : List D} {Q : D → Sto → Prop} {ps : List PP}
end
end PD

/-! Pe6: the least of pairs, a pair removed; loops over tuples. -/
namespace PD
open PySem L2
section
variable {s : Sto} {n : Nat} {l : List D} {Q : D → Sto → Prop} {ps : List PP} {p : PP}
end
/-! single deeds joined -/
/-! slices, loops from the end, sorted numbers -/
section
variable {s : Sto} {n : Nat} {Q : D → Sto → Prop} {is : List Int}
end
end PD

/-! Pe7: dicts by texts; names, plain: a row done deed by deed is its two parts joined. -/
namespace PD
open PySem L2
/-! ### sorted texts -/
/-- a key more, where it is none yet -/
def insK (ks : List Str) (k : Str) : List Str := if k ∈ ks then ks else ks ++ [k]
theorem nd_insK {ks : List Str} {k : Str} (h : ks.Nodup) : (insK ks k).Nodup := by
  unfold insK
  by_cases q : k ∈ ks
  · rw [if_pos q]
    exact h
  · rw [if_neg q]
    refine List.pairwise_append.mpr ⟨h, List.pairwise_singleton _ _, fun a ha b hb => ?_⟩
    rw [List.mem_singleton.mp hb]
    rintro rfl
    exact q ha
/-! ### dicts by texts -/
structure TR (kvs : List (Key × D)) (ks : List Str) (g : Str → Option D) : Prop where
  keys : kvs.map (·.1) = ks.map Sum.inr
  nd : ks.Nodup
  val : ∀ k, valD kvs (.inr k) = g k
theorem TR.nil : TR [] [] fun _ => none := ⟨rfl, .nil, fun _ => rfl⟩
theorem inr_mem {ks : List Str} {k : Str} : (Sum.inr k : Key) ∈ ks.map Sum.inr ↔ k ∈ ks := by
  constructor
  · intro h
    obtain ⟨a, h1, h2⟩ := List.mem_map.mp h
    cases h2
    exact h1
  · exact fun h => List.mem_map.mpr ⟨k, h, rfl⟩
section
variable {kvs : List (Key × D)} {ks : List Str} {g : Str → Option D}
theorem TR.len (h : TR kvs ks g) : kvs.length = ks.length := by
  have := congrArg List.length h.keys
  simpa using this
theorem TR.none_iff (h : TR kvs ks g) {k : Str} : g k = none ↔ k ∉ ks := by
  rw [← h.val, valD_none, h.keys, inr_mem]
theorem TR.mem_iff (h : TR kvs ks g) {k : Str} : k ∈ ks ↔ (g k).isSome = true := by
  cases e : g k with
  | none => simp [h.none_iff.mp e]
  | some d =>
    have : ¬ g k = none := by rw [e]; simp
    rw [h.none_iff] at this
    simp at this
    simp [this]
theorem TR.put (h : TR kvs ks g) (k : Str) (d : D) : TR (putD kvs (.inr k) d) (insK ks k) (fun x => if x = k then some d else g x) := by
  refine ⟨?_, nd_insK h.nd, fun x => ?_⟩
  · rw [keys_putD, h.keys]
    unfold insK
    by_cases q : k ∈ ks
    · rw [if_pos (inr_mem.mpr q), if_pos q]
    · rw [if_neg (fun z => q (inr_mem.mp z)), if_neg q, List.map_append]
      rfl
  · rw [valD_putD, h.val]
    by_cases e : x = k
    · subst e
      simp
    · rw [if_neg e, if_neg]
      intro q
      cases q
      exact e rfl
theorem dropD_keys (k : Str) : ∀ {kvs : List (Key × D)} {ks : List Str}, kvs.map (·.1) = ks.map Sum.inr → (dropD kvs (.inr k)).map (·.1) = (ks.filter fun x => decide (x ≠ k)).map Sum.inr
  | [], ks, h => by
    cases ks with
    | nil => rfl
    | cons a b => cases h
  | p :: r, ks, h => by
    cases ks with
    | nil => cases h
    | cons a b =>
      rw [List.map_cons, List.map_cons] at h
      obtain ⟨h1, h2⟩ := List.cons.inj h
      have ih := dropD_keys k h2
      unfold dropD at ih ⊢
      rw [List.filter_cons, List.filter_cons, h1]
      by_cases q : a = k
      · subst q
        simp only [ne_eq, not_true, decide_false, Bool.false_eq_true, if_false]
        exact ih
      · have q2 : (Sum.inr a : Key) ≠ .inr k := fun z => q (by cases z; rfl)
        simp only [ne_eq, q, q2, not_false_eq_true, decide_true, if_true]
        rw [List.map_cons, List.map_cons, h1, ih]
theorem TR.drop (h : TR kvs ks g) (k : Str) : TR (dropD kvs (.inr k)) (ks.filter fun x => decide (x ≠ k)) (fun x => if x = k then none else g x) := by
  refine ⟨dropD_keys k h.keys, h.nd.sublist List.filter_sublist, fun x => ?_⟩
  rw [valD_dropD, h.val]
  by_cases e : x = k
  · subst e
    simp
  · rw [if_neg e, if_neg]
    intro q
    cases q
    exact e rfl
end
section
variable {s : Sto} {n : Nat} {Q : D → Sto → Prop} {kvs : List (Key × D)} {ks : List Str} {g : Str → Option D}
end
/-! ### names, plain -/
/-- of a name: whether a drop comes first; the number and the time of its last set, where it stands -/
abbrev NE := Bool × Option (Int × Int)
structure NS where
  lack : Int
  ks : List Str
  f : Str → Option NE
structure NOk (x : NS) : Prop where
  nd : x.ks.Nodup
  dom : ∀ k, k ∈ x.ks ↔ (x.f k).isSome = true
inductive ND | set (k : Str) (p : Int × Int) | drop (k : Str) | no
def nset (x : NS) (l : Int) (k : Str) (e : NE) : NS := ⟨x.lack + l, insK x.ks k, fun z => if z = k then some e else x.f z⟩
def wantS : Option NE → Bool
  | some e => e.1
  | none => false
def wantD : Option NE → Bool
  | some e => e.1
  | none => true
def lastO : Option NE → Option (Int × Int)
  | some e => e.2
  | none => none
def lackD (o : Option NE) : Int := if (lastO o).isNone then 1 else 0
def nstep (x : NS) : ND → NS
  | .set k p => nset x 0 k (wantS (x.f k), some p)
  | .drop k => nset x (lackD (x.f k)) k (wantD (x.f k), none)
  | .no => x
def n0 : NS := ⟨0, [], fun _ => none⟩
/-- the same but for the order of the names -/
def NEq (x y : NS) : Prop := x.lack = y.lack ∧ x.f = y.f
theorem NEq.refl (x : NS) : NEq x x := ⟨rfl, rfl⟩
theorem NEq.symm {x y : NS} (h : NEq x y) : NEq y x := ⟨h.1.symm, h.2.symm⟩
theorem NEq.trans {x y z : NS} (h : NEq x y) (g : NEq y z) : NEq x z := ⟨h.1.trans g.1, h.2.trans g.2⟩
theorem NEq.step {x y : NS} (h : NEq x y) (d : ND) : NEq (nstep x d) (nstep y d) := by
  obtain ⟨a, b⟩ := h
  cases d with
  | set k p =>
    refine ⟨?_, ?_⟩
    · show x.lack + 0 = y.lack + 0
      rw [a]
    · show (fun z => if z = k then some (wantS (x.f k), some p) else x.f z) = fun z => if z = k then some (wantS (y.f k), some p) else y.f z
      rw [b]
  | drop k =>
    refine ⟨?_, ?_⟩
    · show x.lack + lackD (x.f k) = y.lack + lackD (y.f k)
      rw [a, b]
    · show (fun z => if z = k then some (wantD (x.f k), none) else x.f z) = fun z => if z = k then some (wantD (y.f k), none) else y.f z
      rw [b]
  | no => exact ⟨a, b⟩
/-! ### as data -/
/-! all names are texts of one kind -/
end PD

namespace LW
open PySem PD
def m_law_cell_at_b : GS :=
  (gSeq (gIf (gTb (gOp (quiet ltD) (gVar 1) (gCB lenD (gCons (gVar 0) gNil)))) (gRet (gOp (quiet ixD) (gVar 0) (gVar 1))) gSkip)
  (gRet (gC (.int 0))))
def m_law_cell_at : Fn := run 2 2 m_law_cell_at_b
def m_law_many_b : GS :=
  (gSeq (gSet 2 (gOp (quiet modD) (gVar 0) (gC (.int 5))))
  (gSeq (gSet 3 (gOp (quiet fdivD) (gVar 0) (gC (.int 5))))
  (gSeq (gIf (gTb (gOp (quiet eqD) (gVar 2) (gC (.int 1)))) (gRet (gLc (gRng1 (gOp (quiet modD) (gVar 3) (gC (.int 41)))) (.one 4) gYes (gOp (quiet modD) (gOp (quiet addD) (gVar 1) (gOp (quiet mulD) (gVar 4) (gOp (quiet shlD) (gC (.int 1)) (gOp (quiet modD) (gOp (quiet fdivD) (gVar 3) (gC (.int 41))) (gC (.int 28)))))) (gC (.int 1073741824))) [4])) gSkip)
  (gSeq (gIf (gTb (gOp (quiet eqD) (gVar 2) (gC (.int 2)))) (gRet (gLc (gRng1 (gOp (quiet modD) (gVar 3) (gC (.int 31)))) (.one 4) gYes (gOp (quiet shlD) (gC (.int 1)) (gVar 4)) [4])) gSkip)
  (gSeq (gIf (gTb (gOp (quiet eqD) (gVar 2) (gC (.int 3)))) (gRet (gLc (gRng1 (gOp (quiet modD) (gVar 3) (gC (.int 31)))) (.one 4) gYes (gOp (quiet subD) (gC (.int 1073741824)) (gOp (quiet shlD) (gC (.int 1)) (gVar 4))) [4])) gSkip)
  (gRet (gLst gNil)))))))
def m_law_many : Fn := run 5 2 m_law_many_b
def m_law_time_b : GS :=
  (gSeq (gSet 1 (gOp (quiet fdivD) (gVar 0) (gC (.int 4))))
  (gSeq (gIf (gTb (gOp (quiet eqD) (gOp (quiet modD) (gVar 0) (gC (.int 4))) (gC (.int 0)))) (gRet (gOp (quiet modD) (gVar 1) (gC (.int 12)))) gSkip)
  (gSeq (gIf (gTb (gOp (quiet eqD) (gOp (quiet modD) (gVar 0) (gC (.int 4))) (gC (.int 1)))) (gRet (gOp (quiet subD) (gC (.int 1073741823)) (gOp (quiet modD) (gVar 1) (gC (.int 12))))) gSkip)
  (gRet (gOp (quiet modD) (gVar 1) (gC (.int 1073741824)))))))
def m_law_time : Fn := run 2 1 m_law_time_b
def m_law_two_l1 : GS :=
  (gSeq (gPut (gVar 5) (gOp (quiet ixD) (gVar 3) (gVar 7)) (gTup (gCons (gC (.str "put")) (gCons (gOp (quiet modD) (gCall m_law_cell_at (gCons (gVar 0) (gCons (gOp (quiet addD) (gVar 7) (gC (.int 1))) gNil))) (gOp (quiet powD) (gC (.int 10)) (gC (.int 30)))) gNil))))
  (gSeq (gSet 8 (gOp (quiet modD) (gOp (quiet fdivD) (gVar 2) (gOp (quiet addD) (gC (.int 1)) (gOp (quiet modD) (gVar 7) (gC (.int 7))))) (gC (.int 5))))
  (gSeq (gIf (gAnd (gTb (gOp (quiet eqD) (gOp (quiet modD) (gVar 2) (gC (.int 4))) (gC (.int 0)))) (gTb (gOp (quiet neD) (gVar 7) (gOp (quiet modD) (gOp (quiet fdivD) (gVar 2) (gC (.int 4))) (gCB lenD (gCons (gVar 3) gNil)))))) (gSet 8 (gC (.int 0))) gSkip)
  (gIf (gTb (gOp (quiet ltD) (gVar 8) (gC (.int 3)))) (gPut (gVar 6) (gOp (quiet ixD) (gVar 3) (gVar 7)) (gOp (quiet ixD) (gVar 5) (gOp (quiet ixD) (gVar 3) (gVar 7)))) (gIf (gTb (gOp (quiet eqD) (gVar 8) (gC (.int 3)))) (gPut (gVar 6) (gOp (quiet ixD) (gVar 3) (gVar 7)) (gTup (gCons (gC (.str "put")) (gCons (gOp (quiet addD) (gOp (quiet powD) (gC (.int 10)) (gC (.int 30))) (gVar 7)) gNil)))) (gIf (gTb (gOp (quiet inD) (gOp (quiet ixD) (gVar 3) (gVar 7)) (gVar 6))) (gExpr (gPop1 (gVar 6) (gOp (quiet ixD) (gVar 3) (gVar 7)))) gSkip))))))
def m_law_two_l2 : GS :=
  (gIf (gTb (gOp (quiet ninD) (gCall m_law_time (gCons (gVar 4) gNil)) (gVar 6))) (gPut (gVar 6) (gCall m_law_time (gCons (gVar 4) gNil)) (gTup (gCons (gC (.str "add")) (gCons (gOp (quiet modD) (gVar 4) (gOp (quiet powD) (gC (.int 10)) (gC (.int 30)))) gNil)))) gSkip)
def m_law_two_l3 : GS :=
  (gIf (gTb (gOp (quiet eqD) (gGet1 (gVar 6) (gVar 9)) (gOp (quiet ixD) (gVar 5) (gVar 9)))) (gExpr (gPop1 (gVar 6) (gVar 9))) gSkip)
def m_law_two_b : GS :=
  (gSeq (gSet 1 (gCall m_law_cell_at (gCons (gVar 0) (gCons (gC (.int 0)) gNil))))
  (gSeq (gSet 2 (gCall m_law_cell_at (gCons (gVar 0) (gCons (gC (.int 2)) gNil))))
  (gSeq (gSet 3 (gOp (quiet addD) (gCall m_law_many (gCons (gVar 1) (gCons (gCall m_law_cell_at (gCons (gVar 0) (gCons (gC (.int 1)) gNil))) gNil))) (gLc (gItA (gSl (gVar 0) (gPart (gC (.int 3))) (gPart (gC (.int 17))))) (.one 4) gYes (gCall m_law_time (gCons (gVar 4) gNil)) [4])))
  (gSeq (gSet 5 gDct0)
  (gSeq (gSet 6 gDct0)
  (gSeq (gFor (gRng1 (gCB lenD (gCons (gVar 3) gNil))) (gName_ 7) m_law_two_l1)
  (gSeq (gFor (gItA (gSl (gVar 0) (gPart (gC (.int 17))) (gPart (gC (.int 31))))) (gName_ 4) m_law_two_l2)
  (gSeq (gIf (gTb (gOp (quiet eqD) (gOp (quiet modD) (gVar 2) (gC (.int 9))) (gC (.int 1)))) (gLockS 5 (gFor (gKeys 5) (gName_ 9) m_law_two_l3)) gSkip)
  (gRet (gLst (gCons (gVar 5) (gCons (gVar 6) gNil))))))))))))
def m_law_two : Fn := run 10 1 m_law_two_b
def m_least_b : GS :=
  (gSeq (gSet 2 (gOp (quiet borD) (gOp (quiet borD) (gOp (quiet bxorD) (gOp (quiet ixD) (gVar 0) (gC (.int 0))) (gOp (quiet ixD) (gVar 1) (gC (.int 0)))) (gOp (quiet subD) (gOp (quiet ixD) (gVar 0) (gC (.int 1))) (gC (.int 1)))) (gOp (quiet subD) (gOp (quiet ixD) (gVar 1) (gC (.int 1))) (gC (.int 1)))))
  (gSeq (gSet 3 (gBits (gVar 2)))
  (gRet (gTup (gCons (gOp (quiet shlD) (gOp (quiet shrD) (gOp (quiet ixD) (gVar 0) (gC (.int 0))) (gVar 3)) (gVar 3)) (gCons (gOp (quiet shlD) (gC (.int 1)) (gVar 3)) gNil))))))
def m_least : Fn := run 4 2 m_least_b
def m_Kind_joined_b : GS :=
  (gRet (gOp (quiet addD) (gVar 1) (gVar 2)))
def m_Kind_joined : Fn := run 3 3 m_Kind_joined_b
def tab_joined : List (PySem.Str × Fn) := [("Kind", m_Kind_joined)]
def m_knot_b : GS :=
  (gSeq (gAsg (gCall m_least (gCons (gSl (gVar 1) gNoPart (gPart (gC (.int 2)))) (gCons (gSl (gVar 2) gNoPart (gPart (gC (.int 2)))) gNil))) (gTupT 2 (gTCons (gName_ 3) (gTCons (gName_ 4) gTNil))))
  (gRet (gTup (gCons (gVar 3) (gCons (gVar 4) (gCons (gMeth "joined" tab_joined (gVar 0) (gCons (gOp (quiet ixD) (gVar 1) (gC (.int 2))) (gCons (gOp (quiet ixD) (gVar 2) (gC (.int 2))) gNil))) (gCons (gVar 1) (gCons (gVar 2) gNil))))))))
def m_knot : Fn := run 5 3 m_knot_b
def m_Kind_lone_b : GS :=
  (gRet (gC (.int 1)))
def m_Kind_lone : Fn := run 3 3 m_Kind_lone_b
def tab_lone : List (PySem.Str × Fn) := [("Kind", m_Kind_lone)]
def m_leaf_b : GS :=
  (gRet (gTup (gCons (gVar 1) (gCons (gC (.int 1)) (gCons (gMeth "lone" tab_lone (gVar 0) (gCons (gVar 1) (gCons (gVar 2) gNil))) (gCons (gVar 2) gNil))))))
def m_leaf : Fn := run 3 3 m_leaf_b
def m_holds_b : GS :=
  (gRet (gChain leD ltD (gOp (quiet ixD) (gVar 0) (gC (.int 0))) (gVar 1) (gOp (quiet addD) (gOp (quiet ixD) (gVar 0) (gC (.int 0))) (gOp (quiet ixD) (gVar 0) (gC (.int 1))))))
def m_holds : Fn := run 2 2 m_holds_b
def m_middle_b : GS :=
  (gRet (gOp (quiet addD) (gOp (quiet ixD) (gVar 0) (gC (.int 0))) (gOp (quiet shrD) (gOp (quiet ixD) (gVar 0) (gC (.int 1))) (gC (.int 1)))))
def m_middle : Fn := run 1 1 m_middle_b
def m_put_in_b (rec_ : Fn) : GS :=
  (gSeq (gIf (gTb (gOp (quiet isND) (gVar 1) (gC .non))) (gRet (gCall m_leaf (gCons (gVar 0) (gCons (gVar 2) (gCons (gVar 3) gNil))))) gSkip)
  (gSeq (gIf (gNot (gT (gCall m_holds (gCons (gSl (gVar 1) gNoPart (gPart (gC (.int 2)))) (gCons (gVar 2) gNil))))) (gSeq (gIf (gTb (gOp (quiet ltD) (gVar 2) (gOp (quiet ixD) (gVar 1) (gC (.int 0))))) (gRet (gCall m_knot (gCons (gVar 0) (gCons (gCall m_leaf (gCons (gVar 0) (gCons (gVar 2) (gCons (gVar 3) gNil)))) (gCons (gVar 1) gNil))))) gSkip)
  (gRet (gCall m_knot (gCons (gVar 0) (gCons (gVar 1) (gCons (gCall m_leaf (gCons (gVar 0) (gCons (gVar 2) (gCons (gVar 3) gNil)))) gNil)))))) gSkip)
  (gSeq (gIf (gTb (gOp (quiet eqD) (gOp (quiet ixD) (gVar 1) (gC (.int 1))) (gC (.int 1)))) (gRaise "Taken") gSkip)
  (gSeq (gIf (gTb (gOp (quiet ltD) (gVar 2) (gCall m_middle (gCons (gVar 1) gNil)))) (gRet (gCall m_knot (gCons (gVar 0) (gCons (gCall rec_ (gCons (gVar 0) (gCons (gOp (quiet ixD) (gVar 1) (gC (.int 3))) (gCons (gVar 2) (gCons (gVar 3) gNil))))) (gCons (gOp (quiet ixD) (gVar 1) (gC (.int 4))) gNil))))) gSkip)
  (gRet (gCall m_knot (gCons (gVar 0) (gCons (gOp (quiet ixD) (gVar 1) (gC (.int 3))) (gCons (gCall rec_ (gCons (gVar 0) (gCons (gOp (quiet ixD) (gVar 1) (gC (.int 4))) (gCons (gVar 2) (gCons (gVar 3) gNil))))) gNil)))))))))
def m_put_in : Nat → Fn
  | 0 => fun _ _ => .bad
  | n + 1 => run 4 4 (m_put_in_b (m_put_in n))
def m_law_grown_l1 : GS :=
  (gSet 1 (gCall (m_put_in 40) (gCons (gVar 2) (gCons (gVar 1) (gCons (gVar 3) (gCons (gOp (quiet ixD) (gVar 0) (gVar 3)) gNil))))))
def m_law_grown_b : GS :=
  (gSeq (gSet 1 (gC .non))
  (gSeq (gSet 2 (gMake0 "Kind"))
  (gSeq (gFor (gItA (gCB sortedD (gCons (gVar 0) gNil))) (gName_ 3) m_law_grown_l1)
  (gRet (gVar 1)))))
def m_law_grown : Fn := run 4 1 m_law_grown_b
def m_law_alike_l1 : GS :=
  (gSeq (gSet 3 (gOp (quiet ixD) (gVar 0) (gVar 2)))
  (gSeq (gIf (gOr (gNot (gT (gIsI .tuple (gVar 3)))) (gOr (gTb (gOp (quiet neD) (gCB lenD (gCons (gVar 3) gNil)) (gC (.int 2)))) (gOr (gT (gIsI .bool (gOp (quiet ixD) (gVar 3) (gC (.int 0))))) (gT (gIsI .bool (gOp (quiet ixD) (gVar 3) (gC (.int 1)))))))) (gRet (gC (.bl false))) gSkip)
  (gIf (gTb (gOp (quiet neD) (gVar 3) (gOp (quiet ixD) (gVar 1) (gVar 2)))) (gRet (gC (.bl false))) gSkip)))
def m_law_alike_b : GS :=
  (gSeq (gIf (gOr (gNot (gT (gIsI .list (gVar 0)))) (gTb (gOp (quiet neD) (gCB lenD (gCons (gVar 0) gNil)) (gCB lenD (gCons (gVar 1) gNil))))) (gRet (gC (.bl false))) gSkip)
  (gSeq (gFor (gRng1 (gCB lenD (gCons (gVar 1) gNil))) (gName_ 2) m_law_alike_l1)
  (gRet (gC (.bl true)))))
def m_law_alike : Fn := run 4 2 m_law_alike_b
def m_within_b : GS :=
  (gRet (gAndV (gOp (quiet leD) (gOp (quiet ixD) (gVar 1) (gC (.int 0))) (gOp (quiet ixD) (gVar 0) (gC (.int 0)))) (gOp (quiet leD) (gOp (quiet addD) (gOp (quiet ixD) (gVar 0) (gC (.int 0))) (gOp (quiet ixD) (gVar 0) (gC (.int 1)))) (gOp (quiet addD) (gOp (quiet ixD) (gVar 1) (gC (.int 0))) (gOp (quiet ixD) (gVar 1) (gC (.int 1)))))))
def m_within : Fn := run 2 2 m_within_b
def m_inside_l1 : GS :=
  (gSeq (gIf (gNot (gT (gCall m_within (gCons (gVar 1) (gCons (gSl (gVar 0) gNoPart (gPart (gC (.int 2)))) gNil))))) (gRet (gC .non)) gSkip)
  (gIf (gTb (gOp (quiet ltD) (gOp (quiet ixD) (gVar 1) (gC (.int 0))) (gCall m_middle (gCons (gVar 0) gNil)))) (gSet 0 (gOp (quiet ixD) (gVar 0) (gC (.int 3)))) (gSet 0 (gOp (quiet ixD) (gVar 0) (gC (.int 4))))))
def m_inside_b : GS :=
  (gSeq (whileG (gAnd (gTb (gOp (quiet notND) (gVar 0) (gC .non))) (gNot (gT (gCall m_within (gCons (gSl (gVar 0) gNoPart (gPart (gC (.int 2)))) (gCons (gVar 1) gNil)))))) m_inside_l1 lots)
  (gRet (gVar 0)))
def m_inside : Fn := run 2 2 m_inside_b
def m_touched_l1 : GS :=
  (gSeq (gSet 4 (gLM popD (gVar 3) gNil))
  (gSeq (gIf (gOr (gTb (gOp (quiet isND) (gVar 4) (gC .non))) (gTb (gOp (quiet eqD) (gCall m_inside (gCons (gVar 0) (gCons (gSl (gVar 4) gNoPart (gPart (gC (.int 2)))) gNil))) (gVar 4)))) gCont gSkip)
  (gSeq (gExpr (gLM appendD (gVar 2) (gCons (gSl (gVar 4) gNoPart (gPart (gC (.int 2)))) gNil)))
  (gIf (gTb (gOp (quiet gtD) (gOp (quiet ixD) (gVar 4) (gC (.int 1))) (gC (.int 1)))) (gSeq (gExpr (gLM appendD (gVar 3) (gCons (gOp (quiet ixD) (gVar 4) (gC (.int 4))) gNil)))
  (gExpr (gLM appendD (gVar 3) (gCons (gOp (quiet ixD) (gVar 4) (gC (.int 3))) gNil)))) gSkip))))
def m_touched_b : GS :=
  (gSeq (gSet 2 (gLst gNil))
  (gSeq (gSet 3 (gLst (gCons (gVar 1) gNil)))
  (gSeq (whileG (gT (gVar 3)) m_touched_l1 lots)
  (gRet (gVar 2)))))
def m_touched : Fn := run 5 2 m_touched_b
def m_law_knots_l1 : GS :=
  (gSeq (gSet 3 (gLM popD (gVar 2) gNil))
  (gIf (gTb (gOp (quiet notND) (gVar 3) (gC .non))) (gSeq (gExpr (gLM appendD (gVar 1) (gCons (gVar 3) gNil)))
  (gIf (gTb (gOp (quiet eqD) (gCB lenD (gCons (gVar 3) gNil)) (gC (.int 5)))) (gSeq (gExpr (gLM appendD (gVar 2) (gCons (gOp (quiet ixD) (gVar 3) (gC (.int 4))) gNil)))
  (gExpr (gLM appendD (gVar 2) (gCons (gOp (quiet ixD) (gVar 3) (gC (.int 3))) gNil)))) gSkip)) gSkip))
def m_law_knots_b : GS :=
  (gSeq (gSet 1 (gLst gNil))
  (gSeq (gSet 2 (gLst (gCons (gVar 0) gNil)))
  (gSeq (whileG (gTb (gOp (quiet gtD) (gCB lenD (gCons (gVar 2) gNil)) (gC (.int 0)))) m_law_knots_l1 lots)
  (gRet (gVar 1)))))
def m_law_knots : Fn := run 4 1 m_law_knots_b
def m_law_due_l1 : GS :=
  (gPutT (gVar 2) (gCons (gOp (quiet ixD) (gVar 3) (gC (.int 0))) (gCons (gOp (quiet ixD) (gVar 3) (gC (.int 1))) gNil)) (gVar 3))
def m_law_due_b : GS :=
  (gSeq (gSet 2 gDt0)
  (gSeq (gFor (gItA (gCall m_law_knots (gCons (gVar 0) gNil))) (gName_ 3) m_law_due_l1)
  (gRet (gLc (gItA (gCall m_law_knots (gCons (gVar 1) gNil))) (.one 3) (gTb (gOp (quiet neD) (gGetT (gVar 2) (gCons (gOp (quiet ixD) (gVar 3) (gC (.int 0))) (gCons (gOp (quiet ixD) (gVar 3) (gC (.int 1))) gNil))) (gVar 3))) (gTup (gCons (gOp (quiet ixD) (gVar 3) (gC (.int 0))) (gCons (gOp (quiet ixD) (gVar 3) (gC (.int 1))) gNil))) [3]))))
def m_law_due : Fn := run 4 2 m_law_due_b
def m_law_b : GS :=
  (gSeq (gSet 1 (gCall m_law_two (gCons (gVar 0) gNil)))
  (gSeq (gSet 2 (gCall m_law_grown (gCons (gOp (quiet ixD) (gVar 1) (gC (.int 0))) gNil)))
  (gSeq (gSet 3 (gCall m_law_grown (gCons (gOp (quiet ixD) (gVar 1) (gC (.int 1))) gNil)))
  (gSeq (gIf (gOr (gNot (gT (gCall m_law_alike (gCons (gCall m_touched (gCons (gVar 2) (gCons (gVar 3) gNil))) (gCons (gCall m_law_due (gCons (gVar 2) (gCons (gVar 3) gNil))) gNil))))) (gNot (gT (gCall m_law_alike (gCons (gCall m_touched (gCons (gVar 3) (gCons (gVar 2) gNil))) (gCons (gCall m_law_due (gCons (gVar 3) (gCons (gVar 2) gNil))) gNil)))))) (gRet (gC (.bl false))) gSkip)
  (gSeq (gIf (gOr (gTb (gOp (quiet neD) (gCall m_touched (gCons (gVar 2) (gCons (gVar 2) gNil))) (gLst gNil))) (gTb (gOp (quiet neD) (gCall m_touched (gCons (gVar 3) (gCons (gC .non) gNil))) (gLst gNil)))) (gRet (gC (.bl false))) gSkip)
  (gRet (gCall m_law_alike (gCons (gCall m_touched (gCons (gC .non) (gCons (gVar 3) gNil))) (gCons (gCall m_law_due (gCons (gC .non) (gCons (gVar 3) gNil))) gNil)))))))))
def m_law : Fn := run 4 1 m_law_b
end LW

namespace LW
open PySem PD L2

/-! ### the program's trees -/
abbrev IsC (c : PySem.Str) (s : Sto) (k : Nat) : Prop := ins? s (.ref k) = some (c, ([] : List (PySem.Str × D)))
theorem IsC.app {c : PySem.Str} {s t : Sto} {k : Nat} (h : IsC c s k) : IsC c (s ++ t) k := ins_app h
theorem IsC.ext {c : PySem.Str} {s s' : Sto} {k : Nat} (h : IsC c s k) (e : ∃ t, s' = s ++ t) : IsC c s' k := by
  obtain ⟨t, rfl⟩ := e
  exact h.app
theorem IsC.set {c : PySem.Str} {s : Sto} {k m : Nat} {o : O} (h : IsC c s k) (hm : k ≠ m) : IsC c (s.set m o) k := ins_set h (fun e => hm (by injection e))
theorem mw_mono {m : PySem.Str} {tab : List (PySem.Str × Fn)} {x : D} {s : Sto} {P P' : Fn → Prop} (h : MW m tab x s P) (i : ∀ fn, P fn → P' fn) : MW m tab x s P' := by
  obtain ⟨c, fs, fn, h1, h2, h3, h4⟩ := h
  exact ⟨c, fs, fn, h1, h2, h3, i fn h4⟩
/-- a kind as it is used by trees -/
structure KL (c : PySem.Str) (ki : KI) (okd okt : D → Prop) : Prop where
  lone : ∀ {s : Sto} {k : Nat} (a : Nat) {d : D}, IsC c s k → okd d → MW "lone" tab_lone (.ref k) s fun fn => EW (fn [.ref k, .int (a : Int), d] s) fun y s' => y = ki.lone a d ∧ ∃ t, s' = s ++ t
  lone_t : ∀ (a : Nat) {d : D}, okd d → okt (ki.lone a d)
  joined : ∀ {s : Sto} {k : Nat} {t u : D}, IsC c s k → okt t → okt u → MW "joined" tab_joined (.ref k) s fun fn => EW (fn [.ref k, t, u] s) fun y s' => y = ki.joined t u ∧ ∃ t, s' = s ++ t
  joined_t : ∀ {t u : D}, okt t → okt u → okt (ki.joined t u)
section
variable {c : PySem.Str} {ki : KI} {okd okt : D → Prop} (hk : KL c ki okd okt) {s : Sto} {k : Nat}
/-- all deeds are deeds -/
def OkB (okd : D → Prop) (f : Bk) : Prop := ∀ x d, f x = some d → okd d
theorem OkB.put {okd : D → Prop} {f : Bk} {a : Nat} {d : D} (h : OkB okd f) (hd : okd d) : OkB okd (f.put a (some d)) := fun x e hx => by
  unfold Bk.put at hx
  split at hx
  · cases hx; exact hd
  · exact h x e hx
theorem OkB.out {okd : D → Prop} {f : Bk} {a : Nat} (h : OkB okd f) : OkB okd (f.put a none) := fun x e hx => by
  unfold Bk.put at hx
  split at hx
  · cases hx
  · exact h x e hx
theorem mk_all {okd : D → Prop} {f : Bk} (h : OkB okd f) : ∀ {b lo : Nat} {t : Tr}, mk b lo f = some t → Tr.all okd t
  | 0, lo, t, e => by
    unfold mk at e
    cases hf : f lo with
    | none => rw [hf] at e; cases e
    | some d =>
      rw [hf] at e
      cases e
      exact h _ _ hf
  | b + 1, lo, t, e => by
    unfold mk at e
    cases hl : mk b lo f with
    | none => rw [hl] at e; exact mk_all h e
    | some l =>
      cases hr : mk b (lo + 2 ^ b) f with
      | none => rw [hl, hr] at e; cases e; exact mk_all h hl
      | some r => rw [hl, hr] at e; cases e; exact ⟨mk_all h hl, mk_all h hr⟩
include hk in
theorem tot_ok : ∀ {t : Tr}, Tr.all okd t → okt (t.tot ki)
  | .lf a d, h => hk.lone_t a h
  | .kn lo b l r, h => hk.joined_t (tot_ok h.1) (tot_ok h.2)
theorem cut2 (ki : KI) (t : Tr) : cutL (.int (t.lo : Int) :: .int ((2 ^ t.bt : Nat) : Int) :: t.tot ki :: t.rest ki) none (some 2) = [.int (t.lo : Int), .int ((2 ^ t.bt : Nat) : Int)] := cut_two
theorem holds (a sz x : Int) (s : Sto) : m_holds [.tup [.int a, .int sz], .int x] s = .ok (.bl (decide (a ≤ x ∧ x < a + sz))) s := by
  refine EW.eq ((ew_run (p := 2) rfl).mpr ?_)
  unfold m_holds_b
  simp [startD]
  refine br_d (fun h => ?_) (fun h => ?_)
  · simp [h]
  · simp [h]
theorem middle (ki : KI) (lo b : Nat) (l r : Tr) (s : Sto) : m_middle [(Tr.kn lo (b + 1) l r).dt ki] s = .ok (.int ((lo + 2 ^ b : Nat) : Int)) s := by
  refine EW.eq ((ew_run (p := 1) rfl).mpr ?_)
  unfold m_middle_b
  have e : (2 : Int) ^ (b + 1) / 2 = 2 ^ b := by
    rw [p2_s]
    omega
  simp [startD, Tr.dt, e]
theorem m_least_eq : m_least = run 4 2 least_b := rfl
include hk in
theorem leafW (a : Nat) {d : D} (hs : IsC c s k) (hd : okd d) : EW (m_leaf [.ref k, .int (a : Int), d] s) fun y s' => y = (Tr.lf a d).dt ki ∧ ∃ t, s' = s ++ t := by
  refine (ew_run (p := 3) rfl).mpr ?_
  unfold m_leaf_b
  simp [startD]
  refine mw_mono (hk.lone a hs hd) fun fn h => h.mono ?_
  rintro y s' ⟨rfl, t, rfl⟩
  exact ⟨by simp [Tr.dt], _, rfl⟩
include hk in
theorem knotW {l r : Tr} {lo b : Nat} (hs : IsC c s k) (hl : Tr.all okd l) (hr : Tr.all okd r) (h1 : bts l.lo (2 ^ l.bt) r.lo (2 ^ r.bt) = b) (h2 : l.lo / 2 ^ b * 2 ^ b = lo) (hb : b ≤ 30) (hlo : l.lo < 1073741824) : EW (m_knot [.ref k, l.dt ki, r.dt ki] s) fun y s' => y = (Tr.kn lo b l r).dt ki ∧ ∃ t, s' = s ++ t := by
  refine (ew_run (p := 3) rfl).mpr ?_
  unfold m_knot_b
  have e := least l.lo (2 ^ l.bt) r.lo (2 ^ r.bt) (pwp _) (pwp _) (by omega) (by rw [h1]; exact hb) s
  rw [h1, h2] at e
  have j := hk.joined hs (tot_ok hk hl) (tot_ok hk hr)
  have el := l.form ki
  have er := r.form ki
  have eq : (Tr.kn lo b l r).dt ki = .tup [.int (lo : Int), .int ((2 ^ b : Nat) : Int), ki.joined (l.tot ki) (r.tot ki), l.dt ki, r.dt ki] := rfl
  rw [eq]
  generalize l.dt ki = dl at *
  generalize r.dt ki = dr at *
  simp only [startD, sw_seq, sw_asg, sw_ret, ew_call, ew_cons, ew_nil, ew_sl, ew_var, ew_noPart, ew_part, ew_c, List.getElem?_cons_succ, List.getElem?_cons_zero, wo_some, List.map, List.append, List.replicate, List.cons_append, List.nil_append, ew_tup, ew_meth, ew_op, ew_quiet]
  subst el er
  refine ⟨2, rfl, ?_⟩
  rw [sl_tup_, cut2, ew_ok]
  refine ⟨2, rfl, ?_⟩
  rw [sl_tup_, cut2, ew_ok, m_least_eq, e, ew_ok]
  simp [-Int.natCast_pow]
  refine mw_mono j fun fn h => ?_
  simp [-Int.natCast_pow]
  refine h.mono ?_
  rintro y s' ⟨rfl, t, rfl⟩
  exact ⟨rfl, _, rfl⟩
end
section
variable {c : PySem.Str} {ki : KI} {okd okt : D → Prop} (hk : KL c ki okd okt) {k : Nat}
theorem holdsT (ki : KI) (t : Tr) (a : Nat) (s : Sto) : m_holds [.tup [.int (t.lo : Int), .int ((2 ^ t.bt : Nat) : Int)], .int (a : Int)] s = .ok (.bl (decide (t.lo ≤ a ∧ a < t.lo + 2 ^ t.bt))) s := by
  rw [holds]
  congr 2
  rw [decide_eq_decide]
  omega
include hk in
theorem put_none (n : Nat) {a : Nat} {d : D} {s : Sto} (hs : IsC c s k) (hd : okd d) : EW (m_put_in (n + 1) [.ref k, .non, .int (a : Int), d] s) fun y s' => y = (Tr.lf a d).dt ki ∧ ∃ t, s' = s ++ t := by
  refine (ew_run (p := 4) rfl).mpr ?_
  unfold m_put_in_b
  simp [startD]
  exact leafW hk a hs hd
include hk in
theorem put_below (n : Nat) {a lo b : Nat} {d : D} {t : Tr} {s : Sto} (hs : IsC c s k) (hd : okd d) (ht : Tr.all okd t) (ha : a < t.lo) (h1 : bts a (2 ^ 0) t.lo (2 ^ t.bt) = b) (h2 : a / 2 ^ b * 2 ^ b = lo) (hb : b ≤ 30) (hlo : a < 1073741824) :
    EW (m_put_in (n + 1) [.ref k, t.dt ki, .int (a : Int), d] s) fun y s' => y = (Tr.kn lo b (.lf a d) t).dt ki ∧ ∃ t, s' = s ++ t := by
  refine (ew_run (p := 4) rfl).mpr ?_
  unfold m_put_in_b
  have e0 : ¬ (t.lo ≤ a ∧ a < t.lo + 2 ^ t.bt) := by omega
  have e1 : (a : Int) < (t.lo : Int) := by omega
  have hl := leafW hk (s := s) a hs hd
  have hkn := fun s' (hs' : IsC c s' k) => knotW hk (s := s') (k := k) (l := .lf a d) (r := t) (lo := lo) (b := b) hs' hd ht h1 h2 hb hlo
  have hh := holdsT ki t a s
  rw [t.form ki] at hkn ⊢
  simp [-Int.natCast_pow, startD, cut_two, hh, e0, e1]
  refine hl.mono ?_
  rintro y s' ⟨rfl, w, rfl⟩
  refine (hkn _ hs.app).mono ?_
  rintro y s' ⟨rfl, v, rfl⟩
  exact ⟨rfl, _, List.append_assoc ..⟩
include hk in
theorem put_above (n : Nat) {a lo b : Nat} {d : D} {t : Tr} {s : Sto} (hs : IsC c s k) (hd : okd d) (ht : Tr.all okd t) (ha : t.lo + 2 ^ t.bt ≤ a) (h1 : bts t.lo (2 ^ t.bt) a (2 ^ 0) = b) (h2 : t.lo / 2 ^ b * 2 ^ b = lo) (hb : b ≤ 30) (hlo : a < 1073741824) :
    EW (m_put_in (n + 1) [.ref k, t.dt ki, .int (a : Int), d] s) fun y s' => y = (Tr.kn lo b t (.lf a d)).dt ki ∧ ∃ t, s' = s ++ t := by
  refine (ew_run (p := 4) rfl).mpr ?_
  unfold m_put_in_b
  have e0 : ¬ (t.lo ≤ a ∧ a < t.lo + 2 ^ t.bt) := by omega
  have hp := pwp t.bt
  have e1 : ¬ (a : Int) < (t.lo : Int) := by omega
  have hl := leafW hk (s := s) a hs hd
  have hkn := fun s' (hs' : IsC c s' k) => knotW hk (s := s') (k := k) (l := t) (r := .lf a d) (lo := lo) (b := b) hs' ht hd h1 h2 hb (by omega)
  have hh := holdsT ki t a s
  rw [t.form ki] at hkn ⊢
  simp [-Int.natCast_pow, startD, cut_two, hh, e0, e1]
  refine hl.mono ?_
  rintro y s' ⟨rfl, w, rfl⟩
  refine (hkn _ hs.app).mono ?_
  rintro y s' ⟨rfl, v, rfl⟩
  exact ⟨rfl, _, List.append_assoc ..⟩
theorem size_ne (b : Nat) : ¬ ((2 ^ (b + 1) : Nat) : Int) = 1 := by
  have := pw2 b
  have := pwp b
  omega
include hk in
theorem put_left (n : Nat) {a lo b : Nat} {d : D} {l r l' : Tr} {s : Sto} (hs : IsC c s k) (h1 : lo ≤ a) (h2 : a < lo + 2 ^ b) (hl : Tr.all okd l') (hr : Tr.all okd r)
    (hrec : EW (m_put_in n [.ref k, l.dt ki, .int (a : Int), d] s) fun y s' => y = l'.dt ki ∧ ∃ t, s' = s ++ t) (e1 : bts l'.lo (2 ^ l'.bt) r.lo (2 ^ r.bt) = b + 1) (e2 : l'.lo / 2 ^ (b + 1) * 2 ^ (b + 1) = lo) (hb : b + 1 ≤ 30) (hlo : l'.lo < 1073741824) :
    EW (m_put_in (n + 1) [.ref k, (Tr.kn lo (b + 1) l r).dt ki, .int (a : Int), d] s) fun y s' => y = (Tr.kn lo (b + 1) l' r).dt ki ∧ ∃ t, s' = s ++ t := by
  refine (ew_run (p := 4) rfl).mpr ?_
  unfold m_put_in_b
  have hp := pw2 b
  have hh := holdsT ki (.kn lo (b + 1) l r) a s
  have e0 : lo ≤ a ∧ a < lo + 2 ^ (b + 1) := ⟨h1, by omega⟩
  have hm := middle ki lo b l r s
  have e3 : (a : Int) < ((lo + 2 ^ b : Nat) : Int) := by omega
  have hkn := fun s' (hs' : IsC c s' k) => knotW hk (s := s') (k := k) (l := l') (r := r) (lo := lo) (b := b + 1) hs' hl hr e1 e2 hb hlo
  have z := size_ne b
  simp only [Tr.lo, Tr.bt] at hh
  simp only [Tr.dt] at hm ⊢
  simp [-Int.natCast_pow, -Int.natCast_add, startD, cut_two, hh, hm, e3, z, e0]
  refine hrec.mono ?_
  rintro y s' ⟨rfl, w, rfl⟩
  refine (hkn _ hs.app).mono ?_
  rintro y s' ⟨rfl, v, rfl⟩
  exact ⟨rfl, _, List.append_assoc ..⟩
include hk in
theorem put_right (n : Nat) {a lo b : Nat} {d : D} {l r r' : Tr} {s : Sto} (hs : IsC c s k) (h1 : lo + 2 ^ b ≤ a) (h2 : a < lo + 2 ^ (b + 1)) (hl : Tr.all okd l) (hr : Tr.all okd r')
    (hrec : EW (m_put_in n [.ref k, r.dt ki, .int (a : Int), d] s) fun y s' => y = r'.dt ki ∧ ∃ t, s' = s ++ t) (e1 : bts l.lo (2 ^ l.bt) r'.lo (2 ^ r'.bt) = b + 1) (e2 : l.lo / 2 ^ (b + 1) * 2 ^ (b + 1) = lo) (hb : b + 1 ≤ 30) (hlo : l.lo < 1073741824) :
    EW (m_put_in (n + 1) [.ref k, (Tr.kn lo (b + 1) l r).dt ki, .int (a : Int), d] s) fun y s' => y = (Tr.kn lo (b + 1) l r').dt ki ∧ ∃ t, s' = s ++ t := by
  refine (ew_run (p := 4) rfl).mpr ?_
  unfold m_put_in_b
  have hp := pw2 b
  have hh := holdsT ki (.kn lo (b + 1) l r) a s
  have e0 : lo ≤ a ∧ a < lo + 2 ^ (b + 1) := ⟨by omega, by omega⟩
  have hm := middle ki lo b l r s
  have e3 : ¬ (a : Int) < ((lo + 2 ^ b : Nat) : Int) := by omega
  have hkn := fun s' (hs' : IsC c s' k) => knotW hk (s := s') (k := k) (l := l) (r := r') (lo := lo) (b := b + 1) hs' hl hr e1 e2 hb hlo
  have z := size_ne b
  simp only [Tr.lo, Tr.bt] at hh
  simp only [Tr.dt] at hm ⊢
  simp [-Int.natCast_pow, -Int.natCast_add, startD, cut_two, hh, hm, e3, z, e0]
  refine hrec.mono ?_
  rintro y s' ⟨rfl, w, rfl⟩
  refine (hkn _ hs.app).mono ?_
  rintro y s' ⟨rfl, v, rfl⟩
  exact ⟨rfl, _, List.append_assoc ..⟩
include hk in
/-- the tree with a deed more is that of the book with a deed more -/
theorem put_in : ∀ (b n lo : Nat) {f : Bk} {a : Nat} {d : D} {s : Sto}, b < n → b ≤ 30 → lo % 2 ^ b = 0 → lo + 2 ^ b ≤ 1073741824 → lo ≤ a → a < lo + 2 ^ b → f a = none → OkB okd f → okd d → IsC c s k →
    EW (m_put_in n [.ref k, oD ki (mk b lo f), .int (a : Int), d] s) fun y s' => y = oD ki (mk b lo (f.put a (some d))) ∧ ∃ t, s' = s ++ t
  | b, 0, lo, f, a, d, s, h0, _, _, _, _, _, _, _, _, _ => absurd h0 (Nat.not_lt_zero _)
  | 0, n + 1, lo, f, a, d, s, h0, hb, hm, hh, h1, h2, hf, hB, hd, hs => by
    have ea : a = lo := by simp at h2; omega
    subst ea
    have e1 : mk 0 a f = none := by unfold mk; rw [hf]; rfl
    have e2 : mk 0 a (f.put a (some d)) = some (.lf a d) := by unfold mk; rw [put_same]; rfl
    rw [e1, e2]
    exact put_none hk n hs hd
  | b + 1, n + 1, lo, f, a, d, s, h0, hb, hm, hh, h1, h2, hf, hB, hd, hs => by
    have hp := pw2 b
    obtain ⟨m1, m2⟩ := mod_half hm
    have hB' := hB.put (a := a) hd
    rcases Nat.lt_or_ge a (lo + 2 ^ b) with ha | ha
    · -- the earlier half
      have er : mk b (lo + 2 ^ b) (f.put a (some d)) = mk b (lo + 2 ^ b) f := mk_congr fun x g1 g2 => put_ne _ _ (by omega)
      have e' : mk (b + 1) lo (f.put a (some d)) = jn lo (b + 1) (mk b lo (f.put a (some d))) (mk b (lo + 2 ^ b) f) := by rw [← er]; rfl
      have e : mk (b + 1) lo f = jn lo (b + 1) (mk b lo f) (mk b (lo + 2 ^ b) f) := rfl
      cases hl : mk b lo f with
      | none =>
        have el : mk b lo (f.put a (some d)) = some (.lf a d) := mk_one h1 ha (fun x g1 g2 g3 => by rw [put_ne _ _ g3]; exact mk_none.mp hl x g1 g2) (put_same ..)
        cases hr : mk b (lo + 2 ^ b) f with
        | none =>
          rw [e', e, hl, hr, el]
          exact put_none hk n hs hd
        | some r =>
          obtain ⟨⟨i1, i2, i3⟩, i4, i5, i6⟩ := mk_in m2 hr
          rw [e', e, hl, hr, el]
          obtain ⟨t1, t2⟩ := bts_two (lo := lo) (b := b) (a := a) (i := 0) (c := r.lo) (j := r.bt) hm h1 (by simp; omega) i1 (by omega)
          exact put_below hk n hs hd (mk_all hB hr) (by omega) t1 t2 (by omega) (by omega)
      | some l =>
        obtain ⟨⟨i1, i2, i3⟩, i4, i5, i6⟩ := mk_in m1 hl
        have ih := put_in b n lo (f := f) (a := a) (d := d) (s := s) (by omega) (by omega) m1 (by omega) h1 ha hf hB hd hs
        rw [hl] at ih
        cases hr : mk b (lo + 2 ^ b) f with
        | none =>
          rw [e', e, hl, hr]
          have ih2 := put_in b (n + 1) lo (f := f) (a := a) (d := d) (s := s) (by omega) (by omega) m1 (by omega) h1 ha hf hB hd hs
          rw [hl] at ih2
          have : jn lo (b + 1) (mk b lo (f.put a (some d))) none = mk b lo (f.put a (some d)) := by cases mk b lo (f.put a (some d)) <;> rfl
          rw [this]
          exact ih2
        | some r =>
          cases hl' : mk b lo (f.put a (some d)) with
          | none =>
            have := mk_none.mp hl' a h1 ha
            rw [put_same] at this
            cases this
          | some l' =>
            obtain ⟨⟨j1, j2, j3⟩, j4, j5, j6⟩ := mk_in m1 hl'
            obtain ⟨⟨k1, k2, k3⟩, k4, k5, k6⟩ := mk_in m2 hr
            rw [hl'] at ih
            rw [e', e, hl, hr, hl']
            obtain ⟨t1, t2⟩ := bts_two (lo := lo) (b := b) (a := l'.lo) (i := l'.bt) (c := r.lo) (j := r.bt) hm j1 (by omega) k1 (by omega)
            have := pwp l'.bt
            exact put_left hk n hs h1 ha (mk_all hB' hl') (mk_all hB hr) ih t1 t2 (by omega) (by omega)
    · have el : mk b lo (f.put a (some d)) = mk b lo f := mk_congr fun x g1 g2 => put_ne _ _ (by omega)
      have e' : mk (b + 1) lo (f.put a (some d)) = jn lo (b + 1) (mk b lo f) (mk b (lo + 2 ^ b) (f.put a (some d))) := by rw [← el]; rfl
      have e : mk (b + 1) lo f = jn lo (b + 1) (mk b lo f) (mk b (lo + 2 ^ b) f) := rfl
      cases hl : mk b lo f with
      | none =>
        have ih2 := put_in b (n + 1) (lo + 2 ^ b) (f := f) (a := a) (d := d) (s := s) (by omega) (by omega) m2 (by omega) ha (by omega) hf hB hd hs
        rw [e', e, hl]
        exact ih2
      | some l =>
        obtain ⟨⟨i1, i2, i3⟩, i4, i5, i6⟩ := mk_in m1 hl
        have hpl := pwp l.bt
        cases hr : mk b (lo + 2 ^ b) f with
        | none =>
          have er : mk b (lo + 2 ^ b) (f.put a (some d)) = some (.lf a d) := mk_one ha (by omega) (fun x g1 g2 g3 => by rw [put_ne _ _ g3]; exact mk_none.mp hr x g1 g2) (put_same ..)
          rw [e', e, hl, hr, er]
          obtain ⟨t1, t2⟩ := bts_two (lo := lo) (b := b) (a := l.lo) (i := l.bt) (c := a) (j := 0) hm i1 (by omega) ha (by simp; omega)
          exact put_above hk n hs hd (mk_all hB hl) (by omega) t1 t2 (by omega) (by omega)
        | some r =>
          have ih := put_in b n (lo + 2 ^ b) (f := f) (a := a) (d := d) (s := s) (by omega) (by omega) m2 (by omega) ha (by omega) hf hB hd hs
          rw [hr] at ih
          cases hr' : mk b (lo + 2 ^ b) (f.put a (some d)) with
          | none =>
            have := mk_none.mp hr' a ha (by omega)
            rw [put_same] at this
            cases this
          | some r' =>
            obtain ⟨⟨j1, j2, j3⟩, j4, j5, j6⟩ := mk_in m2 hr'
            rw [hr'] at ih
            rw [e', e, hl, hr, hr']
            obtain ⟨t1, t2⟩ := bts_two (lo := lo) (b := b) (a := l.lo) (i := l.bt) (c := r'.lo) (j := r'.bt) hm i1 (by omega) j1 (by omega)
            exact put_right hk n hs ha h2 (mk_all hB hl) (mk_all hB' hr') ih t1 t2 (by omega) (by omega)
end


/-! ### what a tree has inside a stretch -/
theorem withinT (a sa c sc : Nat) (s : Sto) : m_within [.tup [.int (a : Int), .int (sa : Int)], .tup [.int (c : Int), .int (sc : Int)]] s = .ok (.bl (decide (c ≤ a ∧ a + sa ≤ c + sc))) s := by
  refine EW.eq ((ew_run (p := 2) rfl).mpr ?_)
  unfold m_within_b
  simp [startD]
  refine br_d (fun h => ?_) (fun h => ?_)
  · simp [h]
    constructor <;> omega
  · first
      | omega
      | (simp; omega)
theorem inside (ki : KI) {f : Bk} {b lo c j : Nat} (hb : b ≤ 30) (hm : lo % 2 ^ b = 0) (hj : c % 2 ^ j = 0) (s : Sto) : m_inside [oD ki (mk b lo f), .tup [.int (c : Int), .int ((2 ^ j : Nat) : Int)]] s = .ok (oD ki (mk b lo (f.res c (2 ^ j)))) s := by
  refine EW.eq ((ew_run (p := 2) rfl).mpr ?_)
  unfold m_inside_b m_inside_l1
  simp only [sw_seq, startD]
  refine while_ix (fun m ρ s' => s' = s ∧ ∃ b' lo', b' < m ∧ b' ≤ 30 ∧ lo' % 2 ^ b' = 0 ∧ ρ = [some (oD ki (mk b' lo' f)), some (.tup [.int (c : Int), .int ((2 ^ j : Nat) : Int)])] ∧ mk b' lo' (f.res c (2 ^ j)) = mk b lo (f.res c (2 ^ j))) ?_ lots (b + 1) _ _ (by unfold lots; omega) ⟨rfl, b, lo, by omega, hb, hm, rfl, rfl⟩
  rintro m ρ s' ⟨rfl, b', lo', hb', hb30, hm', rfl, heq⟩
  rw [← heq]
  cases hf : mk b' lo' f with
  | none =>
    have : mk b' lo' (f.res c (2 ^ j)) = none := mk_none.mpr fun x h1 h2 => (res_or f c (2 ^ j) x).elim (fun q => q.trans (mk_none.mp hf x h1 h2)) id
    simp [this]
  | some t =>
    obtain ⟨⟨a1, a2, a3⟩, a4, a5, a6⟩ := mk_in hm' hf
    have hsub := mk_sub (res_or f c (2 ^ j)) hm' hf
    rw [hsub]
    have hw1 := withinT t.lo (2 ^ t.bt) c (2 ^ j) s'
    have hw2 := withinT c (2 ^ j) t.lo (2 ^ t.bt) s'
    have hpj := pwp j
    have hpt := pwp t.bt
    have hform := t.form ki
    by_cases h1 : c ≤ t.lo ∧ t.lo + 2 ^ t.bt ≤ c + 2 ^ j
    · have e : mk t.bt t.lo (f.res c (2 ^ j)) = some t := by
        rw [← a6]
        exact mk_congr fun x q1 q2 => res_in (by omega) (by omega)
      rw [e, oD_some, hform]
      simp [-Int.natCast_pow, hw1, h1, cut_two]
    · by_cases h2 : t.lo ≤ c ∧ c + 2 ^ j ≤ t.lo + 2 ^ t.bt
      · cases t with
        | lf a d =>
          exfalso
          simp only [Tr.lo, Tr.bt] at *
          omega
        | kn lo1 b1 l r =>
          obtain ⟨e0, c1, e1, hl, hr⟩ := kn_inv a5 a6 rfl
          simp only [Tr.lo, Tr.bt] at *
          subst e1
          obtain ⟨m1, m2⟩ := mod_half a5
          have hmid := middle ki lo1 c1 l r s'
          have hp2 := pw2 c1
          have hjc : j ≤ c1 := by
            rcases Nat.lt_or_ge c1 j with q | q
            · have := Nat.pow_le_pow_right (n := 2) (by decide) (show c1 + 1 ≤ j from q)
              omega
            · exact q
          have hn := nest (a := c) (i := j) (c := lo1) (j := c1) hj m1 hjc
          have hsp : mk (c1 + 1) lo1 (f.res c (2 ^ j)) = jn lo1 (c1 + 1) (mk c1 lo1 (f.res c (2 ^ j))) (mk c1 (lo1 + 2 ^ c1) (f.res c (2 ^ j))) := rfl
          simp only [Tr.dt, oD_some] at hmid ⊢
          by_cases h3 : c < lo1 + 2 ^ c1
          · have hz : mk c1 (lo1 + 2 ^ c1) (f.res c (2 ^ j)) = none := mk_none.mpr fun x q1 q2 => res_out (by omega)
            have h3' : (c : Int) < ((lo1 + 2 ^ c1 : Nat) : Int) := by omega
            simp [-Int.natCast_pow, -Int.natCast_add, hw1, hw2, h1, h2, cut_two, hmid, h3']
            refine ⟨c1 + 1, by omega, c1, by omega, by omega, lo1, m1, ?_, ?_⟩
            · rw [hl]; rfl
            · rw [hsp, hz]
              cases mk c1 lo1 (f.res c (2 ^ j)) <;> rfl
          · have hz : mk c1 lo1 (f.res c (2 ^ j)) = none := mk_none.mpr fun x q1 q2 => res_out (by omega)
            have h3' : ¬ (c : Int) < ((lo1 + 2 ^ c1 : Nat) : Int) := by omega
            simp [-Int.natCast_pow, -Int.natCast_add, hw1, hw2, h1, h2, cut_two, hmid, h3']
            refine ⟨c1 + 1, by omega, c1, by omega, by omega, lo1 + 2 ^ c1, m2, ?_, ?_⟩
            · rw [hr]; rfl
            · rw [hsp, hz]
              rfl
      · have e : mk t.bt t.lo (f.res c (2 ^ j)) = none := by
          refine mk_none.mpr fun x q1 q2 => res_out ?_
          rcases Nat.le_total t.bt j with q | q
          · have := nest a5 hj q
            omega
          · have := nest hj a5 q
            omega
        rw [e, oD_some, hform]
        simp [-Int.natCast_pow, hw1, hw2, h1, h2, cut_two]
        exact ⟨b', hb'⟩

local macro_rules | `(tactic| get_elem_tactic_trivial) => `(tactic| first
  | with_reducible assumption
  | (with_reducible apply seq_of_lst; with_reducible assumption)
  | (with_reducible apply dk_of_dw; with_reducible assumption)
  | (with_reducible apply dk_of_lk; with_reducible assumption)
  | (with_reducible apply Ext.sq; with_reducible assumption; get_elem_tactic_trivial)
  | (with_reducible apply ExtX.sq; with_reducible assumption; omega; get_elem_tactic_trivial)
  | (with_reducible apply ExtM.sq; with_reducible assumption; omega; get_elem_tactic_trivial)
  | (with_reducible apply Ext.ls; with_reducible assumption; get_elem_tactic_trivial)
  | (with_reducible apply ExtX.ls; with_reducible assumption; omega; get_elem_tactic_trivial)
  | (with_reducible apply ExtM.ls; with_reducible assumption; omega; get_elem_tactic_trivial)
  | (with_reducible apply Ext.dk; with_reducible assumption; get_elem_tactic_trivial)
  | (with_reducible apply ExtX.dk; with_reducible assumption; omega; get_elem_tactic_trivial)
  | (with_reducible apply Ext.ins; with_reducible assumption; get_elem_tactic_trivial)
  | (with_reducible apply ExtX.ins; with_reducible assumption; omega; get_elem_tactic_trivial)
  | (with_reducible apply ExtM.ins; with_reducible assumption; omega; get_elem_tactic_trivial)
  | (with_reducible apply Ext.dw; with_reducible assumption; get_elem_tactic_trivial)
  | (with_reducible apply ExtX.dw; with_reducible assumption; omega; get_elem_tactic_trivial)
  | (with_reducible apply ExtM.dw; with_reducible assumption; omega; get_elem_tactic_trivial)
  | (with_reducible apply Ext.lk; with_reducible assumption; get_elem_tactic_trivial)
  | (with_reducible apply ExtX.lk; with_reducible assumption; omega; get_elem_tactic_trivial)
  | with_reducible exact Ext.refl
  | (with_reducible refine Ext.trans ?_ (by with_reducible assumption); get_elem_tactic_trivial))
local macro_rules | `(tactic| get_elem_tactic_extensible) => `(tactic| first
  | with_reducible assumption
  | exact (rfl : List.find? _ _ = some (_, _))
  | exact (rfl : fldD _ _ = none)
  | exact key_int
  | exact key_str
  | exact key_tD
  | get_elem_tactic_trivial
  | omega)
local macro_rules
  | `(tactic| simp_arith [$xs,*]) => `(tactic| simp (disch := get_elem_tactic_extensible) only [to_ef, to_sf, to_bf, to_of, to_df, to_vf, to_mf, bf_t, bf_f, bf_n, df_bl, of_some, vf_str, vf_tup, vf_ref, if_int, tf_str, cf_true, mf_of, sf_nx, sf_rt, sf_bk, sf_ct, sf_next, sf_skip, sf_seq, sf_break, sf_cont, sf_expr, sf_ret, sf_retN, sf_if, sf_set, sf_asg, sf_par2, sf_put, sf_aug, sf_for, tupT2, tupT3, ef_ok, ef_var, ef_c, ef_op, ef_quiet, ef_un, ef_T, ef_Tb, ef_not, ef_and, ef_or, ef_andV, ef_orV, ef_notV, ef_ifE, ef_chain, ef_isI, ef_nil, ef_cons, ef_tup, ef_call, ef_cb, ef_noPart, ef_part, ef_sl, ef_lm, ef_sm, ef_sm0, ef_bits, ef_get1, ef_get2, ef_fld, ef_meth, ef_itA, ef_rng1, ef_rng2, ef_rev, ef_lc, ef_ix_tup, ef_ix_ref, ef_len_ref, tru_bl, tru_non, tru_int, tru_tup, ty_non, ty_bl, ty_int, ty_str, ty_tup, isNon_non, isNon_int, isNon_str, isNon_bl, isNon_tup, isNon_ref, isN_, notN_, is_bb, not_bb, add_ii, sub_ii, iadd_ii, neg_i, lt_ii, le_ii, gt_ii, ge_ii, eq_ii, eq_ss, eq_bb, eq_nn, eq_ni, eq_in, eq_is, eq_si, eq_sn, eq_ns, ne_ii, ne_ss, ne_bb, ne_nn, ne_ni, ne_in, max_ii, min_ii, abs_i, len_tup_, bxor_ii, band_ii, bor_ii, atI_0, atI_1, atI_2, atI_3, atI_4, sl_tup_, ty_is_self, List.getElem?_cons_succ, List.getElem?_cons_zero, List.set_cons_succ, List.set_cons_zero, List.length_cons, List.length_nil, List.map_cons, List.map_nil, List.replicate, List.cons_append, List.nil_append, Nat.reduceAdd, Nat.reduceSub, Nat.reduceLeDiff, Nat.zero_add, startD, wipeD, D.int.injEq, exists_eq_left', exists_eq_left, true_and, and_true, eq_self, Int.zero_add, Bool.not_true, Bool.not_false, decide_true, decide_false, Int.toNat_natCast, ge_iff_le, tD, pD, tru_ref_, isL_, isDk_, ty_seq, rng_nat, mod_ok, fdiv_ok, $xs,*])
  | `(tactic| simp_arith) => `(tactic| simp (disch := get_elem_tactic_extensible) only [to_ef, to_sf, to_bf, to_of, to_df, to_vf, to_mf, bf_t, bf_f, bf_n, df_bl, of_some, vf_str, vf_tup, vf_ref, if_int, tf_str, cf_true, mf_of, sf_nx, sf_rt, sf_bk, sf_ct, sf_next, sf_skip, sf_seq, sf_break, sf_cont, sf_expr, sf_ret, sf_retN, sf_if, sf_set, sf_asg, sf_par2, sf_put, sf_aug, sf_for, tupT2, tupT3, ef_ok, ef_var, ef_c, ef_op, ef_quiet, ef_un, ef_T, ef_Tb, ef_not, ef_and, ef_or, ef_andV, ef_orV, ef_notV, ef_ifE, ef_chain, ef_isI, ef_nil, ef_cons, ef_tup, ef_call, ef_cb, ef_noPart, ef_part, ef_sl, ef_lm, ef_sm, ef_sm0, ef_bits, ef_get1, ef_get2, ef_fld, ef_meth, ef_itA, ef_rng1, ef_rng2, ef_rev, ef_lc, ef_ix_tup, ef_ix_ref, ef_len_ref, tru_bl, tru_non, tru_int, tru_tup, ty_non, ty_bl, ty_int, ty_str, ty_tup, isNon_non, isNon_int, isNon_str, isNon_bl, isNon_tup, isNon_ref, isN_, notN_, is_bb, not_bb, add_ii, sub_ii, iadd_ii, neg_i, lt_ii, le_ii, gt_ii, ge_ii, eq_ii, eq_ss, eq_bb, eq_nn, eq_ni, eq_in, eq_is, eq_si, eq_sn, eq_ns, ne_ii, ne_ss, ne_bb, ne_nn, ne_ni, ne_in, max_ii, min_ii, abs_i, len_tup_, bxor_ii, band_ii, bor_ii, atI_0, atI_1, atI_2, atI_3, atI_4, sl_tup_, ty_is_self, List.getElem?_cons_succ, List.getElem?_cons_zero, List.set_cons_succ, List.set_cons_zero, List.length_cons, List.length_nil, List.map_cons, List.map_nil, List.replicate, List.cons_append, List.nil_append, Nat.reduceAdd, Nat.reduceSub, Nat.reduceLeDiff, Nat.zero_add, startD, wipeD, D.int.injEq, exists_eq_left', exists_eq_left, true_and, and_true, eq_self, Int.zero_add, Bool.not_true, Bool.not_false, decide_true, decide_false, Int.toNat_natCast, ge_iff_le, tD, pD, tru_ref_, isL_, isDk_, ty_seq, rng_nat, mod_ok, fdiv_ok])
local macro_rules
  | `(tactic| simp_all_arith [$xs,*]) => `(tactic| simp (disch := get_elem_tactic_extensible) only [to_ef, to_sf, to_bf, to_of, to_df, to_vf, to_mf, bf_t, bf_f, bf_n, df_bl, of_some, vf_str, vf_tup, vf_ref, if_int, tf_str, cf_true, mf_of, sf_nx, sf_rt, sf_bk, sf_ct, sf_next, sf_skip, sf_seq, sf_break, sf_cont, sf_expr, sf_ret, sf_retN, sf_if, sf_set, sf_asg, sf_par2, sf_put, sf_aug, sf_for, tupT2, tupT3, ef_ok, ef_var, ef_c, ef_op, ef_quiet, ef_un, ef_T, ef_Tb, ef_not, ef_and, ef_or, ef_andV, ef_orV, ef_notV, ef_ifE, ef_chain, ef_isI, ef_nil, ef_cons, ef_tup, ef_call, ef_cb, ef_noPart, ef_part, ef_sl, ef_lm, ef_sm, ef_sm0, ef_bits, ef_get1, ef_get2, ef_fld, ef_meth, ef_itA, ef_rng1, ef_rng2, ef_rev, ef_lc, ef_ix_tup, ef_ix_ref, ef_len_ref, tru_bl, tru_non, tru_int, tru_tup, ty_non, ty_bl, ty_int, ty_str, ty_tup, isNon_non, isNon_int, isNon_str, isNon_bl, isNon_tup, isNon_ref, isN_, notN_, is_bb, not_bb, add_ii, sub_ii, iadd_ii, neg_i, lt_ii, le_ii, gt_ii, ge_ii, eq_ii, eq_ss, eq_bb, eq_nn, eq_ni, eq_in, eq_is, eq_si, eq_sn, eq_ns, ne_ii, ne_ss, ne_bb, ne_nn, ne_ni, ne_in, max_ii, min_ii, abs_i, len_tup_, bxor_ii, band_ii, bor_ii, atI_0, atI_1, atI_2, atI_3, atI_4, sl_tup_, ty_is_self, List.getElem?_cons_succ, List.getElem?_cons_zero, List.set_cons_succ, List.set_cons_zero, List.length_cons, List.length_nil, List.map_cons, List.map_nil, List.replicate, List.cons_append, List.nil_append, Nat.reduceAdd, Nat.reduceSub, Nat.reduceLeDiff, Nat.zero_add, startD, wipeD, D.int.injEq, exists_eq_left', exists_eq_left, true_and, and_true, eq_self, Int.zero_add, Bool.not_true, Bool.not_false, decide_true, decide_false, Int.toNat_natCast, ge_iff_le, tD, pD, tru_ref_, isL_, isDk_, ty_seq, rng_nat, mod_ok, fdiv_ok, Int.cast_ofNat_Int, Int.reduceLT, Int.reduceEq, Int.reduceLE, List.isEmpty_nil, List.isEmpty_cons, $xs,*])
  | `(tactic| simp_all_arith) => `(tactic| simp (disch := get_elem_tactic_extensible) only [to_ef, to_sf, to_bf, to_of, to_df, to_vf, to_mf, bf_t, bf_f, bf_n, df_bl, of_some, vf_str, vf_tup, vf_ref, if_int, tf_str, cf_true, mf_of, sf_nx, sf_rt, sf_bk, sf_ct, sf_next, sf_skip, sf_seq, sf_break, sf_cont, sf_expr, sf_ret, sf_retN, sf_if, sf_set, sf_asg, sf_par2, sf_put, sf_aug, sf_for, tupT2, tupT3, ef_ok, ef_var, ef_c, ef_op, ef_quiet, ef_un, ef_T, ef_Tb, ef_not, ef_and, ef_or, ef_andV, ef_orV, ef_notV, ef_ifE, ef_chain, ef_isI, ef_nil, ef_cons, ef_tup, ef_call, ef_cb, ef_noPart, ef_part, ef_sl, ef_lm, ef_sm, ef_sm0, ef_bits, ef_get1, ef_get2, ef_fld, ef_meth, ef_itA, ef_rng1, ef_rng2, ef_rev, ef_lc, ef_ix_tup, ef_ix_ref, ef_len_ref, tru_bl, tru_non, tru_int, tru_tup, ty_non, ty_bl, ty_int, ty_str, ty_tup, isNon_non, isNon_int, isNon_str, isNon_bl, isNon_tup, isNon_ref, isN_, notN_, is_bb, not_bb, add_ii, sub_ii, iadd_ii, neg_i, lt_ii, le_ii, gt_ii, ge_ii, eq_ii, eq_ss, eq_bb, eq_nn, eq_ni, eq_in, eq_is, eq_si, eq_sn, eq_ns, ne_ii, ne_ss, ne_bb, ne_nn, ne_ni, ne_in, max_ii, min_ii, abs_i, len_tup_, bxor_ii, band_ii, bor_ii, atI_0, atI_1, atI_2, atI_3, atI_4, sl_tup_, ty_is_self, List.getElem?_cons_succ, List.getElem?_cons_zero, List.set_cons_succ, List.set_cons_zero, List.length_cons, List.length_nil, List.map_cons, List.map_nil, List.replicate, List.cons_append, List.nil_append, Nat.reduceAdd, Nat.reduceSub, Nat.reduceLeDiff, Nat.zero_add, startD, wipeD, D.int.injEq, exists_eq_left', exists_eq_left, true_and, and_true, eq_self, Int.zero_add, Bool.not_true, Bool.not_false, decide_true, decide_false, Int.toNat_natCast, ge_iff_le, tD, pD, tru_ref_, isL_, isDk_, ty_seq, rng_nat, mod_ok, fdiv_ok, Int.cast_ofNat_Int, Int.reduceLT, Int.reduceEq, Int.reduceLE, List.isEmpty_nil, List.isEmpty_cons])
/-! ### the deeds of a tree; where two trees part -/
def wt1 : Option Tr → Nat
  | none => 1
  | some t => 2 * t.row.length - 1
def wtS (l : List (Option Tr)) : Nat := (l.map wt1).sum
theorem wtS_snoc (l : List (Option Tr)) (o : Option Tr) : wtS (l ++ [o]) = wtS l + wt1 o := by
  unfold wtS
  simp
theorem len_wtS : ∀ l : List (Option Tr), l.length ≤ wtS l
  | [] => Nat.le_refl _
  | o :: l => by
    show l.length + 1 ≤ wt1 o + wtS l
    have := len_wtS l
    have : 1 ≤ wt1 o := by
      cases o with
      | none => exact Nat.le_refl _
      | some t =>
        have := row_pos t
        show 1 ≤ 2 * t.row.length - 1
        omega
    omega
/-! ### the touched stretches -/
open Classical in
noncomputable def tch (f : Bk) : Tr → List (Nat × Nat)
  | .lf a d => if mk 0 a f = some (.lf a d) then [] else [(a, 0)]
  | .kn lo b l r => if mk b lo f = some (.kn lo b l r) then [] else (lo, b) :: (tch f l ++ tch f r)
noncomputable def tchO (f : Bk) : Option Tr → List (Nat × Nat)
  | none => []
  | some t => tch f t
def stD (p : Nat × Nat) : D := .tup [.int (p.1 : Int), .int ((2 ^ p.2 : Nat) : Int)]
theorem ok_al : ∀ {t : Tr}, t.ok → t.lo % 2 ^ t.bt = 0
  | .lf a d, _ => by show a % 2 ^ 0 = 0; simp; omega
  | .kn lo b l r, h => by
    obtain ⟨c, rfl, h1, _⟩ := h
    exact h1
theorem tch_kn {f : Bk} {lo b : Nat} {l r : Tr} (h : ¬ mk b lo f = some (.kn lo b l r)) : tch f (.kn lo b l r) = (lo, b) :: (tch f l ++ tch f r) := by
  rw [tch]
  exact if_neg h
theorem tch_len (f : Bk) : ∀ t : Tr, (tch f t).length ≤ 2 * t.row.length - 1
  | .lf a d => by
    unfold tch
    split
    · exact Nat.zero_le _
    · show 1 ≤ 2 * 1 - 1
      decide
  | .kn lo b l r => by
    have h1 := tch_len f l
    have h2 := tch_len f r
    have h3 := row_pos l
    have h4 := row_pos r
    have e : (Tr.kn lo b l r).row.length = l.row.length + r.row.length := List.length_append
    unfold tch
    split
    · exact Nat.zero_le _
    · rw [List.length_cons, List.length_append, e]
      omega
theorem touchedG (ki : KI) {okd : D → Prop} {f : Bk} {o : Option Tr} (hf : OkB okd f) (hnb : ∀ d, okd d → nbT d = true) (hT : ∀ t : Tr, t.ok → t.bt ≤ 30 → Tr.all okd t → okT 60 (t.dt ki) = true)
    {b0 lo0 : Nat} (hb0 : b0 ≤ 30) (hm0 : lo0 % 2 ^ b0 = 0) (ho : ∀ t, o = some t → t.ok ∧ Tr.all okd t ∧ lo0 ≤ t.lo ∧ t.lo + 2 ^ t.bt ≤ lo0 + 2 ^ b0) (hl : (oRow o).length ≤ 1000) (s : Sto) :
    EW (m_touched [oD ki (mk b0 lo0 f), oD ki o] s) fun y s' => Ext s s' ∧ ∃ n, y = .ref n ∧ s.length ≤ n ∧ lst? s' n = some ((tchO f o).map stD) := by
  refine (ew_run (p := 2) rfl).mpr ?_
  unfold m_touched_b
  (try simp_arith)
  refine y_lst0 fun r s1 x1 g1 q1 => ?_
  (try simp_arith)
  refine y_lst ?_
  (try simp_arith)
  intro w s2 x2 g2 q2
  have hw : wtS [o] ≤ 2000 := by
    unfold wtS
    cases o with
    | none => simp [wt1]
    | some t =>
      have hl : t.row.length ≤ 1000 := hl
      simp [wt1]
      omega
  have hlen : (tchO f o).length ≤ 2000 := by
    cases o with
    | none => exact Nat.zero_le _
    | some t =>
      have hl : t.row.length ≤ 1000 := hl
      have := tch_len f t
      show (tch f t).length ≤ 2000
      omega
  refine while_ix (fun m ρ s' => ∃ (acc : List (Nat × Nat)) (stk : List (Option Tr)) (v : Option D), m = wtS stk ∧ wtS stk ≤ 2000 ∧ ρ = [some (oD ki (mk b0 lo0 f)), some (oD ki o), some (.ref r), some (.ref w), v] ∧ Ext s s' ∧ s2.length ≤ s'.length ∧ lst? s' r = some (acc.map stD) ∧ lst? s' w = some (stk.map (oD ki)) ∧ acc ++ stk.reverse.flatMap (tchO f) = tchO f o ∧ ∀ t, some t ∈ stk → t.ok ∧ Tr.all okd t ∧ lo0 ≤ t.lo ∧ t.lo + 2 ^ t.bt ≤ lo0 + 2 ^ b0) ?_ lots (wtS [o]) _ _ (by unfold lots; omega) ⟨[], [o], none, rfl, hw, rfl, x1.trans x2, Nat.le_refl _, x2.ls q1, q2, by simp, fun t ht => ho t (List.mem_singleton.mp ht).symm⟩
  rintro m ρ s' ⟨acc, stk, v, rfl, hw2, rfl, x, hsl, k1, k2, he, hok⟩
  have hacc : acc.length ≤ 2000 := by
    rw [← he, List.length_append] at hlen
    omega
  rcases List.eq_nil_or_concat stk with rfl | ⟨st, top, rfl⟩
  · simp_arith
    refine ⟨fun h => (nomatch h), fun _ => ?_⟩
    (try simp_arith)
    simp at he
    exact ⟨x, r, rfl, g1.1, by rw [k1, he]⟩
  rw [List.concat_eq_append] at *
  have hne : ((st ++ [top]).map (oD ki)).isEmpty = false := by simp
  rw [List.reverse_append, List.reverse_cons, List.reverse_nil, List.nil_append, List.singleton_append, List.flatMap_cons] at he
  rw [List.map_append, List.map_cons, List.map_nil] at k2 hne
  simp_arith [hne]
  refine ⟨fun _ => ?_, fun h => nomatch h⟩
  have e1 := wtS_snoc st top
  rw [e1] at hw2
  unfold m_touched_l1
  have hok' : ∀ t, some t ∈ st → t.ok ∧ Tr.all okd t ∧ lo0 ≤ t.lo ∧ t.lo + 2 ^ t.bt ≤ lo0 + 2 ^ b0 := fun t ht => hok t (List.mem_append_left _ ht)
  cases top with
  | none =>
    refine ⟨wtS st, by rw [e1]; show _ < _ + 1; omega, ?_⟩
    (try simp_arith)
    refine y_pop k2 fun s3 x3 g3 q3 => ?_
    simp_arith [oD_none]
    exact ⟨acc, st, _, rfl, by omega, rfl, x.setx (by have := x1.len; omega) x3, by omega, x3.ls (by omega) k1, q3, he, hok'⟩
  | some t =>
    obtain ⟨t1, t2, t3, t4⟩ := hok t (List.mem_append_right _ (List.mem_singleton.mpr rfl))
    have hal := ok_al t1
    have hbt : t.bt ≤ b0 := pow_le_iff.mp (by omega)
    have hpos : 1 ≤ wt1 (some t) := by
      have := row_pos t
      show 1 ≤ 2 * t.row.length - 1
      omega
    have hin : ∀ s, m_inside [oD ki (mk b0 lo0 f), .tup [.int (t.lo : Int), .int ((2 ^ t.bt : Nat) : Int)]] s = .ok (oD ki (mk t.bt t.lo f)) s := fun s => by
      rw [inside ki hb0 hm0 hal s, mk_res hm0 hal t3 t4]
    have ho1 : okT 60 (oD ki (mk t.bt t.lo f)) = true := by
      cases e : mk t.bt t.lo f with
      | none => rfl
      | some u =>
        obtain ⟨⟨a1, a2, a3⟩, a4, a5, a6⟩ := mk_in hal e
        exact hT u a4 (by omega) (mk_all hf e)
    have heq : ∀ s, eqD (oD ki (mk t.bt t.lo f)) (t.dt ki) s = .ok (.bl (eqB (oD ki (mk t.bt t.lo f)) (t.dt ki))) s := fun s => eqD_ok ho1 (hT t t1 (by omega) t2)
    have all_nb : ∀ {u : Tr}, Tr.all okd u → Tr.all (fun d => nbT d = true) u := by
      intro u
      induction u with
      | lf a d => exact fun h => hnb d h
      | kn lo b l r ihl ihr => exact fun h => ⟨ihl h.1, ihr h.2⟩
    have hiff : eqB (oD ki (mk t.bt t.lo f)) (t.dt ki) = true ↔ mk t.bt t.lo f = some t :=
      oD_eqB ki (t := mk t.bt t.lo f) (u := some t) (fun v hv => all_nb (mk_all hf hv)) (fun v hv => by cases hv; exact all_nb t2)
    have hnn : isNon (t.dt ki) = false := by rw [t.form ki]; rfl
    have hsl2 : ∀ s, slD (t.dt ki) none (some 2) s = .ok (.tup [.int (t.lo : Int), .int ((2 ^ t.bt : Nat) : Int)]) s := fun s => by rw [t.form ki, sl_tup_, cut_two]
    have hi1 : ∀ s, ixD (t.dt ki) (.int 1) s = .ok (.int ((2 ^ t.bt : Nat) : Int)) s := fun s => by
      rw [t.form ki]
      exact ix_tup_ atI_1
    by_cases hsame : mk t.bt t.lo f = some t
    · refine ⟨wtS st, by rw [e1]; omega, ?_⟩
      have hnil : tchO f (some t) = [] := by
        show tch f t = []
        cases t with
        | lf a d => unfold tch; exact if_pos hsame
        | kn lo b l r => unfold tch; exact if_pos hsame
      rw [hnil, List.nil_append] at he
      (try simp_arith)
      refine y_pop k2 fun s3 x3 g3 q3 => ?_
      simp_arith [oD_some, hnn, hsl2, hin, heq, hiff.mpr hsame]
      exact ⟨acc, st, _, rfl, by omega, rfl, x.setx (by have := x1.len; omega) x3, by omega, x3.ls (by omega) k1, q3, he, hok'⟩
    have hneq : eqB (oD ki (mk t.bt t.lo f)) (t.dt ki) = false := by
      cases q : eqB (oD ki (mk t.bt t.lo f)) (t.dt ki) with
      | false => rfl
      | true => exact absurd (hiff.mp q) hsame
    cases t with
    | lf a d =>
      have hone : tchO f (some (.lf a d)) = [(a, 0)] := by
        show tch f _ = _
        unfold tch
        exact if_neg hsame
      rw [hone] at he
      have e0 : ((1 : Int) < ((2 ^ 0 : Nat) : Int)) = False := eq_false (by decide)
      refine ⟨wtS st, by rw [e1]; omega, ?_⟩
      simp only [Tr.lo, Tr.bt] at *
      (try simp_arith)
      refine y_pop k2 fun s3 x3 g3 q3 => ?_
      simp_arith [oD_some, hnn, hsl2, hin, heq, hneq]
      refine y_app (x3.ls (by omega) k1) (by rw [List.length_map]; omega) fun s4 x4 g4 q4 => ?_
      simp_arith [hi1, e0]
      exact ⟨acc ++ [(a, 0)], st, _, rfl, by omega, rfl, (x.setx (by have := x1.len; omega) x3).setx g1.1 x4, by omega, by rw [q4, List.map_append]; rfl, x4.ls (by omega) q3, by rw [List.append_assoc]; exact he, hok'⟩
    | kn lo b l r' =>
      obtain ⟨c, rfl, g1', g2', g3', g4', g5', g6', g7'⟩ := t1
      have hcons : tchO f (some (.kn lo (c + 1) l r')) = (lo, c + 1) :: (tchO f (some l) ++ tchO f (some r')) := by
        show tch f _ = _
        unfold tch
        exact if_neg hsame
      rw [hcons] at he
      have hl1 := row_pos l
      have hr1 := row_pos r'
      have hrow : (Tr.kn lo (c + 1) l r').row = l.row ++ r'.row := rfl
      have hp2 := pw2 c
      have hpc := pwp c
      have e0 : ((1 : Int) < ((2 ^ (c + 1) : Nat) : Int)) = True := eq_true (by omega)
      have e3 : wtS (st ++ [some r', some l]) < wtS (st ++ [some (Tr.kn lo (c + 1) l r')]) := by
        rw [e1]
        have e2 : wtS (st ++ [some r', some l]) = wtS st + (wt1 (some r') + wt1 (some l)) := by
          unfold wtS
          simp
        rw [e2]
        have e4 : wt1 (some (Tr.kn lo (c + 1) l r')) = 2 * (l.row.length + r'.row.length) - 1 := by
          show 2 * (Tr.kn lo (c + 1) l r').row.length - 1 = _
          rw [hrow, List.length_append]
        rw [e4]
        show _ + ((2 * r'.row.length - 1) + (2 * l.row.length - 1)) < wtS st + (2 * (l.row.length + r'.row.length) - 1)
        omega
      have h3 : ∀ s, ixD ((Tr.kn lo (c + 1) l r').dt ki) (.int 3) s = .ok (l.dt ki) s := fun s => ix_tup_ atI_3
      have h4 : ∀ s, ixD ((Tr.kn lo (c + 1) l r').dt ki) (.int 4) s = .ok (r'.dt ki) s := fun s => ix_tup_ atI_4
      have hstl := len_wtS st
      simp only [Tr.lo, Tr.bt] at t3 t4
      have hsl3 : ∀ s, slD ((Tr.kn lo (c + 1) l r').dt ki) none (some 2) s = .ok (.tup [.int (lo : Int), .int ((2 ^ (c + 1) : Nat) : Int)]) s := hsl2
      have hi3 : ∀ s, ixD ((Tr.kn lo (c + 1) l r').dt ki) (.int 1) s = .ok (.int ((2 ^ (c + 1) : Nat) : Int)) s := hi1
      have hin3 : ∀ s, m_inside [oD ki (mk b0 lo0 f), .tup [.int (lo : Int), .int ((2 ^ (c + 1) : Nat) : Int)]] s = .ok (oD ki (mk (c + 1) lo f)) s := hin
      have heq3 : ∀ s, eqD (oD ki (mk (c + 1) lo f)) ((Tr.kn lo (c + 1) l r').dt ki) s = .ok (.bl false) s := fun s => by
        have := heq s
        rw [hneq] at this
        exact this
      have hexp : wtS (st ++ [some (Tr.kn lo (c + 1) l r')]) ≤ 2000 := by rw [e1]; exact hw2
      refine ⟨wtS (st ++ [some r', some l]), e3, ?_⟩
      (try simp_arith)
      refine y_pop k2 fun s3 x3 g3 q3 => ?_
      simp_arith [oD_some, hnn, hsl3, hin3, heq3]
      refine y_app (x3.ls (by omega) k1) (by rw [List.length_map]; omega) fun s4 x4 g4 q4 => ?_
      simp_arith [hi3, e0, h4]
      refine y_app (x4.ls (by omega) q3) (by rw [List.length_map]; omega) fun s5 x5 g5 q5 => ?_
      (try simp_arith [h3])
      refine y_app q5 (by simp; omega) fun s6 x6 g6 q6 => ?_
      (try simp_arith)
      refine ⟨acc ++ [(lo, c + 1)], st ++ [some r', some l], _, rfl, by omega, rfl, (((x.setx (by have := x1.len; omega) x3).setx g1.1 x4).setx (by have := x1.len; omega) x5).setx (by have := x1.len; omega) x6, by omega, ?_, by rw [q6]; simp, ?_, ?_⟩
      · rw [(x5.trans x6).ls (by omega) q4, List.map_append]
        rfl
      · rw [← he]
        simp
      · intro t ht
        rcases List.mem_append.mp ht with h | h
        · exact hok' t h
        · simp at h
          rcases h with rfl | rfl
          · exact ⟨g7', t2.2, by omega, by omega⟩
          · exact ⟨g6', t2.1, by omega, by omega⟩
theorem touched (ki : KI) {okd : D → Prop} {f g : Bk} (hf : OkB okd f) (hg : OkB okd g) (hnb : ∀ d, okd d → nbT d = true) (hT : ∀ t : Tr, t.ok → t.bt ≤ 30 → Tr.all okd t → okT 60 (t.dt ki) = true) (hl : (rows g).length ≤ 1000) (s : Sto) :
    EW (m_touched [oD ki (mk 30 0 f), oD ki (mk 30 0 g)] s) fun y s' => Ext s s' ∧ ∃ n, y = .ref n ∧ s.length ≤ n ∧ lst? s' n = some ((tchO f (mk 30 0 g)).map stD) := by
  refine touchedG ki hf hnb hT (Nat.le_refl _) (by decide) (fun t ht => ?_) (by rw [mk_row]; exact hl) s
  obtain ⟨⟨a1, a2, a3⟩, a4, a5, a6⟩ := mk_in (by decide) ht
  exact ⟨a4, mk_all hg ht, a1, a2⟩


/-! ### what is drawn: cells, times -/
theorem cell0 {s : Sto} {n k : Nat} {ns : List Int} (hs : seq? s n = some (ns.map .int)) : m_law_cell_at [.ref n, .int (k : Int)] s = .ok (.int (cellAt ns 0 k)) s := cell_at (c0 := 0) hs
theorem times_of {l : List D} (h : ∀ d ∈ l, ∃ t : Nat, t < 1073741824 ∧ d = tD t) : ∃ ts : List Nat, l = ts.map tD ∧ ∀ t ∈ ts, t < 1073741824 := by
  induction l with
  | nil => exact ⟨[], rfl, fun t h => nomatch h⟩
  | cons d r ih =>
    obtain ⟨ts, rfl, h2⟩ := ih fun e he => h e (List.mem_cons_of_mem _ he)
    obtain ⟨t, ht, rfl⟩ := h d (List.mem_cons_self ..)
    refine ⟨t :: ts, rfl, fun x hx => ?_⟩
    rcases List.mem_cons.mp hx with rfl | hx
    · exact ht
    · exact h2 x hx
theorem many (h st : Int) (s : Sto) : EW (m_law_many [.int h, .int st] s) fun y s' => ∃ ts : List Nat, y = .ref s.length ∧ s' = s ++ [.lst (ts.map tD)] ∧ ts.length ≤ 40 ∧ ∀ t ∈ ts, t < 1073741824 := by
  refine (ew_run (p := 2) rfl).mpr ?_
  unfold m_law_many_b
  have rng : ∀ {m : Int} {k : Nat}, m.toNat = k → itRng 0 k = itRng 0 m.toNat := fun h => by rw [h]
  -- a row of k numbers by a rule
  have go : ∀ (k : Nat) (g : Int → Int) (te : GE) (ρ : En), k ≤ 40 → ρ.length = 5 → (∀ i : Nat, i < k → ∀ s, te (ρ.set 4 (some (.int (i : Int)))) s = .ok (.int (g i)) s) → (∀ i : Nat, i < k → 0 ≤ g i ∧ g i < 1073741824) →
      ∃ s2, lcG (itRng 0 k) (.one 4) gYes te s.length ρ lots 0 (s ++ [.lst []]) = some s2 ∧ ∃ ts : List Nat, s2 = s ++ [.lst (ts.map tD)] ∧ ts.length ≤ 40 ∧ ∀ t ∈ ts, t < 1073741824 := by
    intro k g te ρ hk hρ hte hg
    have e := lc_map (s := s) (ρ := ρ) (it := itRng 0 k) (t := .one 4) (te := te) (items := (List.range k).map fun i : Nat => D.int (i : Int)) (f := fun d => match d with | .int i => .int (g i) | _ => .non) (by show _ ≤ 1000000; simp; omega) (fun i acc => it_rng k i _) ?_
    · refine ⟨_, e, ?_⟩
      have hh : ∀ d ∈ ((List.range k).map fun i : Nat => D.int (i : Int)).map fun d => match d with | .int i => .int (g i) | _ => .non, ∃ t : Nat, t < 1073741824 ∧ d = tD t := by
        intro d hd
        rw [List.map_map] at hd
        obtain ⟨i, hi, rfl⟩ := List.mem_map.mp hd
        obtain ⟨g1, g2⟩ := hg i (List.mem_range.mp hi)
        obtain ⟨x, hx⟩ := Int.eq_ofNat_of_zero_le g1
        exact ⟨x, by omega, by show D.int (g i) = _; rw [hx]; rfl⟩
      obtain ⟨ts, h1, h2⟩ := times_of hh
      refine ⟨ts, by rw [h1], ?_, h2⟩
      have := congrArg List.length h1
      simp at this
      omega
    · intro i d acc hd
      obtain ⟨j, hj, rfl⟩ := List.mem_map.mp (List.mem_of_getElem? hd)
      exact ⟨_, rfl, hte j (List.mem_range.mp hj) _⟩
  have h41 : (h / 5 % 41).toNat ≤ 40 := by omega
  have h31 : (h / 5 % 31).toNat ≤ 30 := by omega
  have r41 : rngOk (h / 5 % 41) = true := by unfold rngOk; simp only [Bool.and_eq_true, decide_eq_true_eq]; omega
  have r31 : rngOk (h / 5 % 31) = true := by unfold rngOk; simp only [Bool.and_eq_true, decide_eq_true_eq]; omega
  simp [startD]
  refine br_of (fun _ => ?_) (fun _ => ?_)
  · refine ⟨r41, ?_⟩
    obtain ⟨b, hb, eb⟩ : ∃ b : Nat, b < 28 ∧ h / 5 / 41 % 28 = (b : Int) := ⟨(h / 5 / 41 % 28).toNat, by omega, by omega⟩
    have hpb := p2_le (a := b) (b := 27) (by omega)
    have hpp := p2_pos b
    simp at hpb
    refine go (h / 5 % 41).toNat (fun i => (st + i * 2 ^ b) % 1073741824) _ _ h41 (by simp [wipeD]) (fun i hi s => ?_) (fun i hi => ⟨by omega, by omega⟩)
    refine EW.eq ?_
    simp only [wipeD, ew_op, ew_quiet, ew_var, ew_c, List.set_cons_succ, List.set_cons_zero, List.getElem?_cons_succ, List.getElem?_cons_zero, wo_some, fdiv_ok (show (0 : Int) < 41 by decide) (show (41 : Int) < _ by decide +kernel), mod_ok (show (0 : Int) < 28 by decide), ew_ok, eb]
    rw [shl1_ (by omega), ew_ok, mul_r (by omega) (by omega), ew_ok, add_ii, ew_ok, mod_ok (by decide), ew_ok]
    exact ⟨rfl, rfl⟩
  · refine br_of (fun _ => ?_) (fun _ => ?_)
    · refine ⟨r31, ?_⟩
      refine go (h / 5 % 31).toNat (fun i => 2 ^ i.toNat) _ _ (by omega) (by simp [wipeD]) (fun i hi s => ?_) (fun i hi => ?_)
      · refine EW.eq ?_
        simp only [wipeD, ew_op, ew_quiet, ew_var, ew_c, List.set_cons_succ, List.set_cons_zero, List.getElem?_cons_succ, List.getElem?_cons_zero, wo_some]
        rw [shl1_ (by omega), ew_ok]
        exact ⟨rfl, rfl⟩
      · have g1 := p2_pos i
        have g2 := p2_le (a := i) (b := 29) (by omega)
        simp at g2
        rw [Int.toNat_natCast]
        omega
    · refine br_of (fun _ => ?_) (fun _ => ?_)
      · refine ⟨r31, ?_⟩
        refine go (h / 5 % 31).toNat (fun i => 1073741824 - 2 ^ i.toNat) _ _ (by omega) (by simp [wipeD]) (fun i hi s => ?_) (fun i hi => ?_)
        · refine EW.eq ?_
          simp only [wipeD, ew_op, ew_quiet, ew_var, ew_c, List.set_cons_succ, List.set_cons_zero, List.getElem?_cons_succ, List.getElem?_cons_zero, wo_some]
          rw [shl1_ (by omega), ew_ok, sub_ii, ew_ok]
          exact ⟨rfl, rfl⟩
        · have g1 := p2_pos i
          have g2 := p2_le (a := i) (b := 29) (by omega)
          simp at g2
          rw [Int.toNat_natCast]
          omega
      · first
          | trivial
          | exact ⟨[], rfl, by simp, fun t h => nomatch h⟩


/-! ### a time, by three ways -/
theorem time_ex (c : Int) : ∃ t : Nat, t < 1073741824 ∧ ∀ s, m_law_time [.int c] s = .ok (tD t) s := by
  have h : c % 4 = 0 ∨ c % 4 = 1 ∨ c % 4 = 2 ∨ c % 4 = 3 := by omega
  have go (x : Int) (h0 : 0 ≤ x) (h1 : x < 1073741824) (q : ∀ s, m_law_time [.int c] s = .ok (.int x) s) : ∃ t : Nat, t < 1073741824 ∧ ∀ s, m_law_time [.int c] s = .ok (tD t) s := by
    obtain ⟨t, rfl⟩ := Int.eq_ofNat_of_zero_le h0
    exact ⟨t, by omega, q⟩
  rcases h with h | h | h | h
  · refine go (c / 4 % 12) (by omega) (by omega) fun s => EW.eq ((ew_run rfl).mpr ?_)
    unfold m_law_time_b
    simp [startD, h]
  · refine go (1073741823 - c / 4 % 12) (by omega) (by omega) fun s => EW.eq ((ew_run rfl).mpr ?_)
    unfold m_law_time_b
    simp [startD, h]
  · refine go (c / 4 % 1073741824) (by omega) (by omega) fun s => EW.eq ((ew_run rfl).mpr ?_)
    unfold m_law_time_b
    simp [startD, h]
  · refine go (c / 4 % 1073741824) (by omega) (by omega) fun s => EW.eq ((ew_run rfl).mpr ?_)
    unfold m_law_time_b
    simp [startD, h]
noncomputable def tm (c : Int) : Nat := (time_ex c).choose
theorem tm_lt (c : Int) : tm c < 1073741824 := (time_ex c).choose_spec.1
theorem tm_eq (c : Int) (s : Sto) : m_law_time [.int c] s = .ok (tD (tm c)) s := (time_ex c).choose_spec.2 s
/-! ### the plain kind -/
def isI (d : D) : Prop := ∃ i : Int, d = .int i
theorem kindL : KL "Kind" plainK (fun _ => True) isI := by
  refine ⟨fun {s k} a {d} hs _ => ?_, fun a d _ => ⟨1, rfl⟩, fun {s k t u} hs ht hu => ?_, fun {t u} ht hu => ?_⟩
  · refine (mw_of (c := "Kind") (fn := m_Kind_lone) hs rfl rfl).mpr ?_
    refine (ew_run (p := 3) rfl).mpr ?_
    unfold m_Kind_lone_b
    simp [startD, plainK]
  · obtain ⟨x, rfl⟩ := ht
    obtain ⟨y, rfl⟩ := hu
    refine (mw_of (c := "Kind") (fn := m_Kind_joined) hs rfl rfl).mpr ?_
    refine (ew_run (p := 3) rfl).mpr ?_
    unfold m_Kind_joined_b
    simp [startD, plainK, plus]
  · obtain ⟨x, rfl⟩ := ht
    obtain ⟨y, rfl⟩ := hu
    exact ⟨x + y, rfl⟩
theorem okB_any (f : Bk) : OkB (fun _ => True) f := fun _ _ _ => trivial
/-- put in, plain kind, the whole range -/
theorem put_plain {f : Bk} {a : Nat} {d : D} {s : Sto} {k : Nat} (ha : a < 1073741824) (hf : f a = none) (hs : IsC "Kind" s k) :
    EW (m_put_in 40 [.ref k, oD plainK (mk 30 0 f), .int (a : Int), d] s) fun y s' => y = oD plainK (mk 30 0 (f.put a (some d))) ∧ ∃ t, s' = s ++ t :=
  put_in kindL 30 40 0 (by decide) (by decide) (by decide) (by decide) (Nat.zero_le _) (by simpa using ha) hf (okB_any f) trivial hs

/-! the knots of a tree, from the top -/
def kns : Tr → List Tr
  | .lf a d => [.lf a d]
  | .kn lo b l r => .kn lo b l r :: (kns l ++ kns r)
def knO : Option Tr → List Tr
  | none => []
  | some t => kns t
def sT (t : Tr) : Nat × Nat := (t.lo, t.bt)
def kyT (t : Tr) : List Key := [.inl (t.lo : Int), .inl ((2 ^ t.bt : Nat) : Int)]
theorem kyT_inj {t u : Tr} (h : kyT t = kyT u) : t.lo = u.lo ∧ t.bt = u.bt := by
  unfold kyT at h
  injection h with h1 h2
  injection h2 with h2 h3
  injection h1 with h1
  injection h2 with h2
  exact ⟨Int.ofNat.inj h1, pow_inj (Int.ofNat.inj h2)⟩
theorem kns_top (t : Tr) : t ∈ kns t := by
  cases t with
  | lf a d => exact List.mem_singleton.mpr rfl
  | kn lo b l r => exact List.mem_cons_self ..
theorem kns_len : ∀ t : Tr, (kns t).length ≤ 2 * t.row.length - 1
  | .lf a d => Nat.le_refl _
  | .kn lo b l r => by
    have h1 := kns_len l
    have h2 := kns_len r
    have h3 := row_pos l
    have h4 := row_pos r
    have e : (Tr.kn lo b l r).row.length = l.row.length + r.row.length := List.length_append
    show (kns l ++ kns r).length + 1 ≤ _
    rw [List.length_append, e]
    omega
theorem knO_len {o : Option Tr} {n : Nat} (h : (oRow o).length ≤ n) : (knO o).length ≤ 2 * n := by
  cases o with
  | none => exact Nat.zero_le _
  | some t =>
    have := kns_len t
    have h' : t.row.length ≤ n := h
    show (kns t).length ≤ _
    omega
theorem kns_self {f : Bk} : ∀ t : Tr, t.lo % 2 ^ t.bt = 0 → mk t.bt t.lo f = some t → ∀ u ∈ kns t, mk u.bt u.lo f = some u ∧ u.lo % 2 ^ u.bt = 0 ∧ t.lo ≤ u.lo ∧ u.lo + 2 ^ u.bt ≤ t.lo + 2 ^ t.bt
  | .lf a d, hm, h, u, hu => by
    rw [List.mem_singleton.mp hu]
    exact ⟨h, hm, Nat.le_refl _, Nat.le_refl _⟩
  | .kn lo b l r, hm, h, u, hu => by
    rcases List.mem_cons.mp hu with rfl | hw
    · exact ⟨h, hm, Nat.le_refl _, Nat.le_refl _⟩
    clear hu
    have hu : u ∈ kns l ++ kns r := hw
    clear hw
    obtain ⟨e0, c, e1, hl, hr⟩ := kn_inv hm h rfl
    have e1' : b = c + 1 := e1
    subst e1'
    obtain ⟨m1, m2⟩ := mod_half (show lo % 2 ^ (c + 1) = 0 from hm)
    have hp := pw2 c
    show _ ∧ _ ∧ lo ≤ u.lo ∧ u.lo + 2 ^ u.bt ≤ lo + 2 ^ (c + 1)
    replace hl : mk c lo f = some l := hl
    replace hr : mk c (lo + 2 ^ c) f = some r := hr
    obtain ⟨⟨a1, a2, a3⟩, a4, a5, a6⟩ := mk_in m1 hl
    obtain ⟨⟨b1, b2, b3⟩, b4, b5, b6⟩ := mk_in m2 hr
    rcases List.mem_append.mp hu with hu | hu
    · obtain ⟨q1, q2, q3, q4⟩ := kns_self l a5 a6 u hu
      exact ⟨q1, q2, by omega, by omega⟩
    · obtain ⟨q1, q2, q3, q4⟩ := kns_self r b5 b6 u hu
      exact ⟨q1, q2, by omega, by omega⟩
theorem mem_kns {f : Bk} : ∀ {b lo : Nat} {t : Tr}, lo % 2 ^ b = 0 → mk b lo f = some t → ∀ u : Tr, u.lo % 2 ^ u.bt = 0 → mk u.bt u.lo f = some u → lo ≤ u.lo → u.lo + 2 ^ u.bt ≤ lo + 2 ^ b → u ∈ kns t
  | 0, lo, t, hm, h, u, hu, hmu, h1, h2 => by
    have hp := pwp u.bt
    have e1 : u.bt = 0 := by
      have : 2 ^ u.bt ≤ 2 ^ 0 := by omega
      exact Nat.le_zero.mp (pow_le_iff.mp this)
    have e2 : u.lo = lo := by rw [e1] at h2; omega
    rw [e1, e2, h] at hmu
    cases hmu
    exact kns_top _
  | b + 1, lo, t, hm, h, u, hu, hmu, h1, h2 => by
    obtain ⟨m1, m2⟩ := mod_half hm
    have hp := pw2 b
    have hpu := pwp u.bt
    have hb : u.bt ≤ b + 1 := pow_le_iff.mp (by omega)
    by_cases hbb : u.bt = b + 1
    · have e2 : u.lo = lo := by rw [hbb] at h2; omega
      rw [hbb, e2, h] at hmu
      cases hmu
      exact kns_top _
    have hbl : u.bt ≤ b := by omega
    have some_ : ∀ {c : Nat}, c ≤ u.lo → u.lo + 2 ^ u.bt ≤ c + 2 ^ b → ∃ l, mk b c f = some l := fun {c} g1 g2 => by
      cases e : mk b c f with
      | some l => exact ⟨l, rfl⟩
      | none =>
        have : mk u.bt u.lo f = none := mk_none.mpr fun x q1 q2 => mk_none.mp e x (by omega) (by omega)
        rw [this] at hmu
        cases hmu
    have hj : mk (b + 1) lo f = jn lo (b + 1) (mk b lo f) (mk b (lo + 2 ^ b) f) := rfl
    rw [hj] at h
    have hn := nest hu m1 hbl
    have hn2 := nest hu m2 hbl
    rcases Nat.lt_or_ge u.lo (lo + 2 ^ b) with hlt | hge
    · have g2 : u.lo + 2 ^ u.bt ≤ lo + 2 ^ b := by omega
      obtain ⟨l, hl⟩ := some_ h1 g2
      have ih := mem_kns m1 hl u hu hmu h1 g2
      rw [hl] at h
      cases hr : mk b (lo + 2 ^ b) f with
      | none => rw [hr] at h; cases h; exact ih
      | some r =>
        rw [hr] at h
        cases h
        exact List.mem_cons_of_mem _ (List.mem_append_left _ ih)
    · obtain ⟨r, hr⟩ := some_ (c := lo + 2 ^ b) hge (by omega)
      have ih := mem_kns m2 hr u hu hmu hge (by omega)
      rw [hr] at h
      cases hl : mk b lo f with
      | none => rw [hl] at h; cases h; exact ih
      | some l =>
        rw [hl] at h
        cases h
        exact List.mem_cons_of_mem _ (List.mem_append_right _ ih)
open Classical in
theorem tch_kns {f : Bk} : ∀ t : Tr, t.ok → tch f t = ((kns t).filter fun u => decide (¬ mk u.bt u.lo f = some u)).map sT
  | .lf a d, _ => by
    unfold tch kns
    by_cases h : mk 0 a f = some (.lf a d)
    · rw [if_pos h]
      simp [List.filter_cons, Tr.lo, Tr.bt, h]
    · rw [if_neg h]
      simp [List.filter_cons, Tr.lo, Tr.bt, h, sT]
  | .kn lo b l r, hk => by
    by_cases h : mk b lo f = some (.kn lo b l r)
    · have e1 : tch f (.kn lo b l r) = [] := by unfold tch; exact if_pos h
      rw [e1]
      have e2 : (kns (.kn lo b l r)).filter (fun u => decide (¬ mk u.bt u.lo f = some u)) = [] := by
        rw [List.filter_eq_nil_iff]
        intro u hu
        have := (kns_self (.kn lo b l r) (ok_al hk) h u hu).1
        simp [this]
      rw [e2]
      rfl
    · obtain ⟨c, rfl, _, _, _, _, _, kl, kr⟩ := id hk
      rw [tch_kn h, tch_kns l kl, tch_kns r kr]
      show _ = ((Tr.kn lo (c + 1) l r :: (kns l ++ kns r)).filter _).map sT
      have e3 : ∀ L : List Tr, (Tr.kn lo (c + 1) l r :: L).filter (fun u => decide (¬ mk u.bt u.lo f = some u)) = Tr.kn lo (c + 1) l r :: L.filter (fun u => decide (¬ mk u.bt u.lo f = some u)) := fun L => List.filter_cons_of_pos (p := fun u : Tr => decide (¬ mk u.bt u.lo f = some u)) (decide_eq_true h)
      rw [e3, List.filter_append, List.map_cons, List.map_append]
      rfl
open Classical in
theorem tchO_kns {f : Bk} {o : Option Tr} (h : ∀ t, o = some t → t.ok) : tchO f o = ((knO o).filter fun u => decide (¬ mk u.bt u.lo f = some u)).map sT := by
  cases o with
  | none => rfl
  | some t => exact tch_kns t (h t rfl)
/-! the law's own walk over the knots -/
theorem knots (ki : KI) {o : Option Tr} (hl : (oRow o).length ≤ 1000) (s : Sto) :
    EW (m_law_knots [oD ki o] s) fun y s' => Ext s s' ∧ ∃ n, y = .ref n ∧ s.length ≤ n ∧ lst? s' n = some ((knO o).map (Tr.dt ki)) := by
  refine (ew_run (p := 1) rfl).mpr ?_
  unfold m_law_knots_b
  (try simp_arith)
  refine y_lst0 fun r s1 x1 g1 q1 => ?_
  (try simp_arith)
  refine y_lst ?_
  (try simp_arith)
  intro w s2 x2 g2 q2
  have hw : wtS [o] ≤ 2000 := by
    unfold wtS
    cases o with
    | none => simp [wt1]
    | some t =>
      have hl : t.row.length ≤ 1000 := hl
      simp [wt1]
      omega
  have hlen := knO_len hl
  refine while_ix (fun m ρ s' => ∃ (acc : List Tr) (stk : List (Option Tr)) (v : Option D), m = wtS stk ∧ wtS stk ≤ 2000 ∧ ρ = [some (oD ki o), some (.ref r), some (.ref w), v] ∧ Ext s s' ∧ s2.length ≤ s'.length ∧ lst? s' r = some (acc.map (Tr.dt ki)) ∧ lst? s' w = some (stk.map (oD ki)) ∧ acc ++ stk.reverse.flatMap knO = knO o) ?_ lots (wtS [o]) _ _ (by unfold lots; omega) ⟨[], [o], none, rfl, hw, rfl, x1.trans x2, Nat.le_refl _, x2.ls q1, q2, by simp⟩
  rintro m ρ s' ⟨acc, stk, v, rfl, hw2, rfl, x, hsl, k1, k2, he⟩
  have hacc : acc.length ≤ 2000 := by
    rw [← he, List.length_append] at hlen
    omega
  rcases List.eq_nil_or_concat stk with rfl | ⟨st, top, rfl⟩
  · simp_all_arith [List.map_nil, List.length_nil]
    refine ⟨fun h => (nomatch h), fun _ => ?_⟩
    (try simp_arith)
    simp at he
    exact ⟨x, r, rfl, g1.1, by rw [k1, he]⟩
  rw [List.concat_eq_append] at *
  have hne : (((st ++ [top]).map (oD ki)).length : Int) > 0 := by simp
  rw [List.reverse_append, List.reverse_cons, List.reverse_nil, List.nil_append, List.singleton_append, List.flatMap_cons] at he
  rw [List.map_append, List.map_cons, List.map_nil] at k2 hne
  simp_arith [eq_true hne]
  refine ⟨fun _ => ?_, fun h => nomatch h⟩
  have e1 := wtS_snoc st top
  rw [e1] at hw2
  unfold m_law_knots_l1
  cases top with
  | none =>
    refine ⟨wtS st, by rw [e1]; show _ < _ + 1; omega, ?_⟩
    (try simp_arith)
    refine y_pop k2 fun s3 x3 g3 q3 => ?_
    simp_arith [oD_none]
    exact ⟨acc, st, _, rfl, by omega, rfl, x.setx (by have := x1.len; omega) x3, by omega, x3.ls (by omega) k1, q3, he⟩
  | some t =>
    have hnn : isNon (t.dt ki) = false := by rw [t.form ki]; rfl
    cases t with
    | lf a d =>
      refine ⟨wtS st, by rw [e1]; show _ < _ + (2 * 1 - 1); omega, ?_⟩
      have hln : ∀ s, lenD [(Tr.lf a d).dt ki] s = .ok (.int 4) s := fun s => EW.eq (by show EW (lenD [.tup _] s) _; simp_arith; rfl)
      (try simp_arith)
      refine y_pop k2 fun s3 x3 g3 q3 => ?_
      simp_arith [oD_some, hnn]
      refine y_app (x3.ls (by omega) k1) (by rw [List.length_map]; omega) fun s4 x4 g4 q4 => ?_
      simp_all_arith [hln]
      exact ⟨acc ++ [.lf a d], st, _, rfl, by omega, rfl, (x.setx (by have := x1.len; omega) x3).setx g1.1 x4, by omega, by rw [q4, List.map_append]; rfl, x4.ls (by omega) q3, by rw [List.append_assoc]; exact he⟩
    | kn lo b l r' =>
      have hl1 := row_pos l
      have hr1 := row_pos r'
      have hrow : (Tr.kn lo b l r').row = l.row ++ r'.row := rfl
      have e2 : wtS (st ++ [some r', some l]) = wtS st + (wt1 (some r') + wt1 (some l)) := by
        unfold wtS
        simp
      have e4 : wt1 (some (Tr.kn lo b l r')) = 2 * (l.row.length + r'.row.length) - 1 := by
        show 2 * (Tr.kn lo b l r').row.length - 1 = _
        rw [hrow, List.length_append]
      have e3 : wtS (st ++ [some r', some l]) < wtS (st ++ [some (Tr.kn lo b l r')]) := by
        rw [e1, e2, e4]
        show _ + ((2 * r'.row.length - 1) + (2 * l.row.length - 1)) < wtS st + (2 * (l.row.length + r'.row.length) - 1)
        omega
      have h3 : ∀ s, ixD ((Tr.kn lo b l r').dt ki) (.int 3) s = .ok (l.dt ki) s := fun s => ix_tup_ atI_3
      have h4 : ∀ s, ixD ((Tr.kn lo b l r').dt ki) (.int 4) s = .ok (r'.dt ki) s := fun s => ix_tup_ atI_4
      have hln : ∀ s, lenD [(Tr.kn lo b l r').dt ki] s = .ok (.int 5) s := fun s => EW.eq (by show EW (lenD [.tup _] s) _; simp_arith; rfl)
      have hstl := len_wtS st
      have hexp : wtS (st ++ [some (Tr.kn lo b l r')]) ≤ 2000 := by rw [e1]; exact hw2
      refine ⟨wtS (st ++ [some r', some l]), e3, ?_⟩
      (try simp_arith)
      refine y_pop k2 fun s3 x3 g3 q3 => ?_
      simp_arith [oD_some, hnn]
      refine y_app (x3.ls (by omega) k1) (by rw [List.length_map]; omega) fun s4 x4 g4 q4 => ?_
      simp_all_arith [hln, h4]
      refine y_app (x4.ls (by omega) q3) (by rw [List.length_map]; omega) fun s5 x5 g5 q5 => ?_
      simp_all_arith [h3]
      refine y_app q5 (by simp; omega) fun s6 x6 g6 q6 => ?_
      (try simp_arith)
      refine ⟨acc ++ [.kn lo b l r'], st ++ [some r', some l], _, rfl, by omega, rfl, (((x.setx (by have := x1.len; omega) x3).setx g1.1 x4).setx (by have := x1.len; omega) x5).setx (by have := x1.len; omega) x6, by omega, ?_, by rw [q6]; simp, ?_⟩
      · rw [(x5.trans x6).ls (by omega) q4, List.map_append]
        rfl
      · rw [← he]
        show _ = acc ++ ((Tr.kn lo b l r' :: (kns l ++ kns r')) ++ _)
        simp [knO]
/-! the dict by tuples -/
section
variable {s s' : Sto} {ρ : En} {n : Nat} {o e : GE} {i : GA} {l : List D} {ks : List Key} {kvs : List (List Key × D)} {v : D} {N B C : En → Sto → Prop} {R : D → Sto → Prop} {Q : D → Sto → Prop}
theorem dt_lt (h : dt? s n = some kvs) : n < s.length := by
  unfold dt? at h
  cases e : s[n]? with
  | none => rw [e] at h; cases h
  | some o => exact (List.getElem?_eq_some_iff.mp e).1
theorem dt_ext (x : Ext s s') (h : dt? s n = some kvs) : dt? s' n = some kvs := by
  obtain ⟨t, rfl⟩ := x
  have := dt_lt h
  unfold dt? at *
  rw [List.getElem?_append_left this]
  exact h
theorem y_dt0 (h : ∀ n s', Ext s s' → s.length ≤ n → dt? s' n = some [] → Q (.ref n) s') : EW (gDt0 ρ s) Q := by
  show EW (newO (.dt []) s) Q
  rw [ew_new]
  exact h _ _ .app (Nat.le_refl _) (by unfold dt?; simp)
theorem y_getT (ho : o ρ s = .ok (.ref n) s) (hi : i ρ s = .ok l s) (hk : keysT? l = some ks) (hd : dt? s n = some kvs) (hl : l.length ≤ 1000000) : gGetT o i ρ s = .ok ((valD kvs ks).getD .non) s := by
  unfold gGetT
  rw [ho]
  show (match dt? s n with
    | some _ => (i ρ s).bind fun l s2 => match keysT? l with
      | some ks => (match dt? s2 n with
        | some kvs => if decide (l.length ≤ line) then Res.ok ((valD kvs ks).getD .non) s2 else Res.bad
        | none => Res.bad)
      | none => Res.bad
    | none => Res.bad) = _
  rw [hd]
  show ((i ρ s).bind fun l s2 => match keysT? l with
      | some ks => (match dt? s2 n with
        | some kvs => if decide (l.length ≤ line) then Res.ok ((valD kvs ks).getD .non) s2 else Res.bad
        | none => Res.bad)
      | none => Res.bad) = _
  rw [hi]
  show (match keysT? l with
      | some ks => (match dt? s n with
        | some kvs => if decide (l.length ≤ line) then Res.ok ((valD kvs ks).getD .non) s else Res.bad
        | none => Res.bad)
      | none => Res.bad) = _
  rw [hk]
  show (match dt? s n with
        | some kvs => if decide (l.length ≤ line) then Res.ok ((valD kvs ks).getD .non) s else Res.bad
        | none => Res.bad) = _
  rw [hd]
  exact if_pos (decide_eq_true hl)
theorem y_putT (he : e ρ s = .ok v s) (ho : o ρ s = .ok (.ref n) s) (hi : i ρ s = .ok l s) (hk : keysT? l = some ks) (hd : dt? s n = some kvs) (hl : l.length ≤ 1000000) (hkv : kvs.length < 1000000)
    (k : ∀ s', ExtX n s s' → s'.length = s.length → dt? s' n = some (putD kvs ks v) → N ρ s') : SW (gPutT o i e ρ s) N R B C := by
  have h : gPutT o i e ρ s = .nx ρ (s.set n (.dt (putD kvs ks v))) := by
    unfold gPutT
    rw [he]
    show (o ρ s).st ρ _ = _
    rw [ho]
    show (i ρ s).st ρ _ = _
    rw [hi]
    show (match keysT? l with
    | some ks => (match dt? s n with
      | some kvs => if decide (l.length ≤ line) && decide (kvs.length < line) then RS.nx ρ (s.set n (.dt (putD kvs ks v))) else RS.bad
      | none => RS.bad)
    | none => RS.bad) = _
    rw [hk]
    show (match dt? s n with
      | some kvs => if decide (l.length ≤ line) && decide (kvs.length < line) then RS.nx ρ (s.set n (.dt (putD kvs ks v))) else RS.bad
      | none => RS.bad) = _
    rw [hd]
    exact if_pos (Bool.and_eq_true_iff.mpr ⟨decide_eq_true hl, decide_eq_true hkv⟩)
  rw [h, sw_nx]
  refine k _ .of (List.length_set ..) ?_
  unfold dt?
  rw [List.getElem?_set_self (dt_lt hd)]
end
/-- a deed that is drawn -/
def PA (d : D) : Prop := ∃ i : Int, d = .tup [.str "put", .int i] ∨ d = .tup [.str "add", .int i]
theorem PA.put (i : Int) : PA (.tup [.str "put", .int i]) := ⟨i, .inl rfl⟩
theorem PA.add (i : Int) : PA (.tup [.str "add", .int i]) := ⟨i, .inr rfl⟩
theorem pa_nb : ∀ d, PA d → nbT d = true := by
  rintro d ⟨i, rfl | rfl⟩ <;> rfl
theorem pa_okT : ∀ {d : D}, PA d → okT 60 d = true := by
  rintro d ⟨i, rfl | rfl⟩
  · rw [okT, okTs, okTs, okTs]
    simp only [okT]
    decide +kernel
  · rw [okT, okTs, okTs, okTs]
    simp only [okT]
    decide +kernel
theorem pa_ok : ∀ t : Tr, t.ok → t.bt ≤ 30 → Tr.all PA t → okT 60 (t.dt plainK) = true := by
  intro t h hb ha
  refine okT_mono (dt_okT (m := 1) (okd := PA) (fun t _ => ?_) (fun d hd => ?_) h ha) (by omega)
  · rw [plain_tot]
    rfl
  · obtain ⟨i, rfl | rfl⟩ := hd
    · rw [okT, okTs, okTs, okTs]
      simp only [okT]
      decide +kernel
    · rw [okT, okTs, okTs, okTs]
      simp only [okT]
      decide +kernel
theorem tch_ {f g : Bk} (hf : OkB PA f) (hg : OkB PA g) (nf : (rows f).length ≤ 300) (ng : (rows g).length ≤ 300) (s : Sto) : EW (m_touched [oD plainK (mk 30 0 f), oD plainK (mk 30 0 g)] s) fun y s' => Ext s s' ∧ ∃ n, y = .ref n ∧ s.length ≤ n ∧ lst? s' n = some ((tchO f (mk 30 0 g)).map stD) :=
  touched plainK hf hg pa_nb pa_ok (by omega) s
theorem all_nbT {u : Tr} (h : Tr.all PA u) : Tr.all (fun d => nbT d = true) u := by
  induction u with
  | lf a d => exact pa_nb d h
  | kn lo b l r ihl ihr => exact ⟨ihl h.1, ihr h.2⟩
theorem tchO_len {f : Bk} {o : Option Tr} {n : Nat} (h : (oRow o).length ≤ n) : (tchO f o).length ≤ 2 * n := by
  cases o with
  | none => exact Nat.zero_le _
  | some t =>
    have := tch_len f t
    have h' : t.row.length ≤ n := h
    show (tch f t).length ≤ _
    omega
/-! what the law awaits -/
open Classical in
theorem due {f g : Bk} (hf : OkB PA f) (hg : OkB PA g) (nf : (rows f).length ≤ 300) (ng : (rows g).length ≤ 300) (s : Sto) : EW (m_law_due [oD plainK (mk 30 0 f), oD plainK (mk 30 0 g)] s) fun y s' => Ext s s' ∧ ∃ n, y = .ref n ∧ s.length ≤ n ∧ lst? s' n = some ((tchO f (mk 30 0 g)).map stD) := by
  have of_ : ∀ t, mk 30 0 f = some t → t.ok ∧ Tr.all PA t ∧ t.bt ≤ 30 ∧ t.lo % 2 ^ t.bt = 0 ∧ mk t.bt t.lo f = some t ∧ t.lo + 2 ^ t.bt ≤ 2 ^ 30 := fun t ht => by
    obtain ⟨⟨a1, a2, a3⟩, a4, a5, a6⟩ := mk_in (by decide) ht
    exact ⟨a4, mk_all hf ht, a3, a5, a6, by omega⟩
  have og_ : ∀ t, mk 30 0 g = some t → t.ok ∧ Tr.all PA t ∧ t.bt ≤ 30 ∧ t.lo % 2 ^ t.bt = 0 ∧ mk t.bt t.lo g = some t ∧ t.lo + 2 ^ t.bt ≤ 2 ^ 30 := fun t ht => by
    obtain ⟨⟨a1, a2, a3⟩, a4, a5, a6⟩ := mk_in (by decide) ht
    exact ⟨a4, mk_all hg ht, a3, a5, a6, by omega⟩
  have lf : (oRow (mk 30 0 f)).length ≤ 300 := by rw [mk_row]; exact nf
  have lg : (oRow (mk 30 0 g)).length ≤ 300 := by rw [mk_row]; exact ng
  have lkf := knO_len lf
  have lkg := knO_len lg
  -- the knots of the old tree
  have kf : ∀ u ∈ knO (mk 30 0 f), mk u.bt u.lo f = some u := fun u hu => by
    cases e : mk 30 0 f with
    | none => rw [e] at hu; cases hu
    | some t =>
      rw [e] at hu
      obtain ⟨_, _, _, q4, q5, _⟩ := of_ t e
      exact (kns_self t q4 q5 u hu).1
  have kf2 : ∀ u : Tr, u.lo % 2 ^ u.bt = 0 → u.lo + 2 ^ u.bt ≤ 2 ^ 30 → mk u.bt u.lo f = some u → u ∈ knO (mk 30 0 f) := fun u h1 h2 h3 => by
    cases e : mk 30 0 f with
    | none =>
      have : mk u.bt u.lo f = none := mk_none.mpr fun x q1 q2 => mk_none.mp e x (by omega) (by omega)
      rw [this] at h3
      cases h3
    | some t => exact mem_kns (by decide) e u h1 h3 (by omega) (by omega)
  have kg : ∀ u ∈ knO (mk 30 0 g), u.lo % 2 ^ u.bt = 0 ∧ u.lo + 2 ^ u.bt ≤ 2 ^ 30 ∧ mk u.bt u.lo g = some u := fun u hu => by
    cases e : mk 30 0 g with
    | none => rw [e] at hu; cases hu
    | some t =>
      rw [e] at hu
      obtain ⟨_, _, _, q4, q5, q6⟩ := og_ t e
      obtain ⟨z1, z2, z3, z4⟩ := kns_self t q4 q5 u hu
      exact ⟨z2, by omega, z1⟩
  have heq := tchO_kns (f := f) (o := mk 30 0 g) fun t ht => (og_ t ht).1
  have kF := fun s => knots plainK (o := mk 30 0 f) (by omega) s
  have kG := fun s => knots plainK (o := mk 30 0 g) (by omega) s
  rw [heq]
  generalize knO (mk 30 0 f) = F at *
  generalize knO (mk 30 0 g) = G at *
  generalize oD plainK (mk 30 0 f) = df at *
  generalize oD plainK (mk 30 0 g) = dg at *
  refine (ew_run (p := 2) rfl).mpr ?_
  unfold m_law_due_b
  (try simp_arith)
  refine y_dt0 fun n s1 x1 g1 q1 => ?_
  (try simp_arith)
  refine (kF s1).mono ?_
  rintro y s2 ⟨x2, m, rfl, g2, q2⟩
  simp_arith
  have hn1 := dt_lt q1
  have c0 : ∀ (u : Tr) (s : Sto), ixD (u.dt plainK) (.int 0) s = .ok (.int (u.lo : Int)) s := fun u s => by rw [u.form plainK]; exact ix_tup_ atI_0
  have c1 : ∀ (u : Tr) (s : Sto), ixD (u.dt plainK) (.int 1) s = .ok (.int ((2 ^ u.bt : Nat) : Int)) s := fun u s => by rw [u.form plainK]; exact ix_tup_ atI_1
  have key : ∀ u : Tr, keysT? [.int (u.lo : Int), .int ((2 ^ u.bt : Nat) : Int)] = some (kyT u) := fun u => rfl
  refine y_for (f := Tr.dt plainK) (l := F) (fun i ρ s' => ∃ (kvs : List (List Key × D)) (v : Option D), ρ = [some df, some dg, some (.ref n), v] ∧ Ext s s' ∧ s2.length ≤ s'.length ∧ lst? s' m = some (F.map (Tr.dt plainK)) ∧ dt? s' n = some kvs ∧ kvs.length ≤ i ∧ (∀ u ∈ F.take i, valD kvs (kyT u) = some (u.dt plainK)) ∧ ∀ k d, valD kvs k = some d → ∃ u ∈ F.take i, k = kyT u ∧ d = u.dt plainK) (by omega) (fun i ρ s h => by
    obtain ⟨_, v, _, x, _, q, _⟩ := h
    exact seq_of_lst q) ?_ ?_ ⟨[], none, rfl, x1.trans x2, Nat.le_refl _, q2, dt_ext x2 q1, Nat.le_refl _, (fun u hu => by rw [List.take_zero] at hu; cases hu), (fun k d h => by cases h)⟩
  · rintro i ρ s' p hp hi ⟨kvs, v, rfl, x, hsl, qm, qn, hk, hv, hw⟩
    unfold m_law_due_l1
    have hpF : p ∈ F := List.mem_of_getElem? hp
    refine y_putT (v := p.dt plainK) (l := [.int (p.lo : Int), .int ((2 ^ p.bt : Nat) : Int)]) (EW.eq (by simp_arith)) (EW.eq (by simp_arith)) (EW.eq (by simp_arith [c0, c1])) (key p) qn (by simp) (by omega) fun s3 x3 g3 q3 => ?_
    have l3 : (putD kvs (kyT p) (p.dt plainK)).length ≤ kvs.length + 1 := len_putD ..
    refine ⟨_, _, rfl, x.setx (by omega) x3, by omega, x3.ls (by omega) qm, q3, by omega, fun u hu => ?_, fun k d h => ?_⟩
    · rw [valD_putD]
      by_cases e : kyT p = kyT u
      · rw [if_pos e]
        obtain ⟨e1, e2⟩ := kyT_inj e
        have a1 := kf p hpF
        have a2 := kf u (List.mem_of_mem_take hu)
        rw [e1, e2, a2] at a1
        cases a1
        rfl
      · rw [if_neg e]
        rw [take_cons hp] at hu
        rcases List.mem_append.mp hu with h | h
        · exact hv u h
        · rw [List.mem_singleton.mp h] at e
          exact absurd rfl e
    · rw [valD_putD] at h
      rw [take_cons hp]
      by_cases e : kyT p = k
      · rw [if_pos e] at h
        exact ⟨p, List.mem_append_right _ (List.mem_singleton.mpr rfl), e.symm, (Option.some.inj h).symm⟩
      · rw [if_neg e] at h
        obtain ⟨u, hu, q⟩ := hw k d h
        exact ⟨u, List.mem_append_left _ hu, q⟩
  rintro ρ s3 ⟨kvs, v, rfl, x3, hsl, qm, qn, hk, hv, hw⟩
  rw [List.take_length] at hv hw
  (try simp_arith)
  refine (kG s3).mono ?_
  rintro y s4 ⟨x4, m4, rfl, g4, q4⟩
  have qn4 := dt_ext x4 qn
  simp_arith
  refine y_lcF (f := Tr.dt plainK) (g := fun t => stD (sT t)) (p := fun u => decide (¬ mk u.bt u.lo f = some u)) (y_itseq (seq_of_lst q4)) (by omega) (fun t ht s5 x5 => ?_) (fun t ht s5 x5 _ => ?_) fun s5 x5 g5 q5 => ?_
  · refine EW.eq ?_
    obtain ⟨t1, t2, t3⟩ := kg t ht
    have hal : Tr.all PA t := mk_all hg t3
    have tok : t.ok := (mk_in t1 t3).2.1
    have tbt : t.bt ≤ 30 := pow_le_iff.mp (by omega)
    have hge := y_getT (ρ := [some df, some dg, some (.ref n), some (t.dt plainK)]) (s := s5) (o := gVar 2) (i := gCons (gOp (quiet ixD) (gVar 3) (gC (.int 0))) (gCons (gOp (quiet ixD) (gVar 3) (gC (.int 1))) gNil)) (EW.eq (by simp_arith)) (EW.eq (by simp_arith [c0, c1])) (key t) (dt_ext x5 qn4) (by simp)
    have hne : neD ((valD kvs (kyT t)).getD .non) (t.dt plainK) s5 = .ok (.bl (decide (¬ mk t.bt t.lo f = some t))) s5 := by
      cases e : valD kvs (kyT t) with
      | none =>
        have hno : ¬ mk t.bt t.lo f = some t := fun z => by
          rw [hv t (kf2 t t1 t2 z)] at e
          cases e
        rw [Option.getD_none, neD_ok rfl (pa_ok t tok tbt hal), (eqB_nt t plainK).1]
        simp [hno]
      | some d =>
        obtain ⟨u, hu, e1, rfl⟩ := hw _ _ e
        obtain ⟨e2, e3⟩ := kyT_inj e1
        have hu' := kf u hu
        have hua : Tr.all PA u := mk_all hf hu'
        have uok : u.ok := (mk_in (by rw [← e2, ← e3]; exact t1) hu').2.1
        rw [Option.getD_some, neD_ok (pa_ok u uok (by omega) hua) (pa_ok t tok tbt hal)]
        have hiff := dt_eqB plainK (all_nbT hua) (all_nbT hal)
        congr 2
        by_cases z : u = t
        · subst z
          rw [hiff.mpr rfl]
          simp [hu']
        · have hf1 : eqB (u.dt plainK) (t.dt plainK) = false := by
            cases q : eqB (u.dt plainK) (t.dt plainK) with
            | false => rfl
            | true => exact absurd (hiff.mp q) z
          rw [hf1]
          have : ¬ mk t.bt t.lo f = some t := fun q => by
            rw [e2, e3, hu'] at q
            exact z (Option.some.inj q)
          simp [this]
    simp_arith [hge, hne]
  · refine EW.eq ?_
    simp_arith [c0, c1]
    rfl
  have xx : Ext s s5 := (x3.trans x4).trans x5
  have l3 := x3.len
  have l4 := x4.len
  (try simp_arith)
  refine ⟨xx, _, rfl, by omega, ?_⟩
  rw [q5, List.map_map]
  rfl
theorem alike {n m : Nat} {L : List (Nat × Nat)} {s : Sto} (hn : lst? s n = some (L.map stD)) (hm : seq? s m = some (L.map stD)) (hl : L.length ≤ 1000) : m_law_alike [.ref n, .ref m] s = .ok (.bl true) s := by
  refine EW.eq ((ew_run (p := 2) rfl).mpr ?_)
  unfold m_law_alike_b
  have hml : (L.map stD).length = L.length := List.length_map ..
  simp_arith [hml]
  refine for_rng (fun i ρ s' => s' = s ∧ ∃ v w, ρ = [some (.ref n), some (.ref m), v, w]) (by show _ ≤ 1000000; omega) ?_ ?_ ⟨rfl, none, none, rfl⟩
  · rintro i ρ s' hi ⟨rfl, v, w, rfl⟩
    have hp : L[i]? = some L[i] := List.getElem?_eq_getElem hi
    generalize L[i] = p at hp
    unfold m_law_alike_l1
    have hb : (Ty.int.is Ty.bool) = false := rfl
    have ht : (Ty.tuple.is Ty.tuple) = true := rfl
    have hn2 : ∀ s, neD (.tup [.int (p.1 : Int), .int ((2 ^ p.2 : Nat) : Int)]) (.tup [.int (p.1 : Int), .int ((2 ^ p.2 : Nat) : Int)]) s = .ok (.bl false) s := fun s => by
      rw [ne_two]
      simp
    simp_all_arith [atI_map hp, hb, ht, stD, hn2]
    exact ⟨_, _, rfl⟩
  · rintro ρ s' ⟨rfl, v, w, rfl⟩
    simp_arith
theorem bkL_rows {f : Bk} (h : ∀ x d, f x = some d → x < 1073741824) : bkL (rows f) = f := by
  funext x
  cases e : f x with
  | some d => exact (bkL_mem (riseL_nodup (List.pairwise_map.mpr (rows_asc f)))).mpr (rows_mem.mpr ⟨h x d e, e⟩)
  | none =>
    refine bkL_none.mpr fun p hp hx => ?_
    have := (rows_mem.mp (show (p.1, p.2) ∈ rows f from hp)).2
    rw [hx, e] at this
    cases this
theorem take_new {rs : List (Nat × D)} {i : Nat} {p : Nat × D} (hr : RiseL rs) (hp : rs[i]? = some p) : ∀ q ∈ rs.take i, q.1 ≠ p.1 := by
  intro q hq e
  have h1 : RiseL (rs.take (i + 1)) := by
    unfold RiseL
    rw [List.map_take]
    exact List.Pairwise.sublist (List.take_sublist ..) hr
  rw [take_cons hp] at h1
  unfold RiseL at h1
  rw [List.map_append] at h1
  have := (List.pairwise_append.mp h1).2.2 q.1 (List.mem_map.mpr ⟨q, hq, rfl⟩) p.1 (by simp)
  omega
theorem grown {n : Nat} {kvs : List (Key × D)} {f : Bk} {s : Sto} (h : dk? s n = some kvs) (hD : DR kvs f) (hl : kvs.length ≤ 300) : EW (m_law_grown [.ref n] s) fun y s' => y = oD plainK (mk 30 0 f) ∧ Ext s s' := by
  refine (ew_run (p := 1) rfl).mpr ?_
  unfold m_law_grown_b
  simp_arith
  refine y_make0 fun k s1 x1 g1 q1 => ?_
  have h1 := x1.dk h
  simp_arith
  refine y_srt hD h1 fun m s2 x2 g2 q2 => ?_
  have h2 := x2.dk h1
  have hk2 := x2.ins q1
  have hlt : ∀ x d, f x = some d → x < 1073741824 := fun x d e => (hD.to_ x d e).1
  have hrl : (rows f).length ≤ 300 := by rw [hD.len]; exact hl
  have hmem : ∀ p ∈ rows f, f p.1 = some p.2 ∧ p.1 < 1073741824 := fun p hp => by
    have := rows_mem.mp (show (p.1, p.2) ∈ rows f from hp)
    exact ⟨this.2, this.1⟩
  have hrise : RiseL (rows f) := List.pairwise_map.mpr (rows_asc f)
  rw [← bkL_rows hlt]
  generalize rows f = rs at q2 hrl hmem hrise
  simp_arith
  have n0 : oD plainK (mk 30 0 (bkL (rs.take 0))) = .non := by
    rw [mk_none.mpr fun x _ _ => by rw [List.take_zero]; rfl]
    rfl
  refine y_for (f := fun p : Nat × D => D.int (p.1 : Int)) (l := rs) (fun i ρ s => ∃ v, ρ = [some (.ref n), some (oD plainK (mk 30 0 (bkL (rs.take i)))), some (.ref k), v] ∧ Ext s2 s) (by omega) (fun i ρ s h => by
    obtain ⟨v, _, x⟩ := h
    exact x.sq (seq_of_lst q2)) ?_ ?_ ⟨none, by rw [n0], .refl⟩
  · rintro i ρ s' p hp hi ⟨v, rfl, x⟩
    have hm := hmem p (List.mem_of_getElem? hp)
    have hv := hD.val p.1
    rw [hm.1] at hv
    unfold m_law_grown_l1
    simp_arith [ix_dk (x.dk h2) key_int hv]
    refine (put_plain hm.2 (bkL_none.mpr (take_new hrise hp)) (x.ins hk2)).mono ?_
    rintro y s3 ⟨rfl, x3⟩
    rw [bkL_put (take_new hrise hp), ← take_cons hp]
    exact ⟨_, rfl, x.trans x3⟩
  · rintro ρ s' ⟨v, rfl, x⟩
    simp_arith
    rw [List.take_length]
    exact ⟨rfl, (x1.trans x2).trans x⟩
theorem cellN {s : Sto} {ns : List Int} (hs : seq? s 0 = some (ns.map .int)) (k : Nat) : m_law_cell_at [.ref 0, .int (k : Int)] s = .ok (.int (cellAt ns 0 k)) s := cell0 hs
theorem pa_get {f : Bk} (h : OkB PA f) (x : Nat) : okT 60 ((f x).getD .non) = true ∧ nbT ((f x).getD .non) = true := by
  cases e : f x with
  | none => exact ⟨rfl, rfl⟩
  | some d => exact ⟨pa_okT (h x d e), pa_nb d (h x d e)⟩
theorem eqB_none {d : D} (h : PA d) : eqB .non d = false := by
  obtain ⟨i, rfl | rfl⟩ := h <;> rfl
theorem y_dpopS {s : Sto} {Q : D → Sto → Prop} {n : Nat} {d x : D} {kvs : List (Key × D)} {kk : Key} {o a : GE} {ρ : En} (ho : ∀ s', o ρ s' = .ok (.ref n) s') (ha : a ρ s = .ok x s) (h : dw? s n = some kvs) (hk : key? x = some kk) (hv : valD kvs kk = some d) (k : ∀ s', ExtX n s s' → s'.length = s.length → dw? s' n = some (dropD kvs kk) → Q d s') : EW (gPop1 o a ρ s) Q := by
  have hD := isDk_ (dk_of_dw h)
  have e : gPop1 o a ρ s = .ok d (s.set n (.dk (dropD kvs kk))) := by
    unfold gPop1
    rw [ho]
    simp only [hD, if_true]
    unfold gDPop
    rw [ho]
    show (if isDk s (.ref n) = true then (a ρ s).bind fun k s2 => dpopD (.ref n) k s2 else .bad) = _
    rw [hD, if_pos rfl, ha]
    show dpopD (.ref n) x s = _
    unfold dpopD
    simp only [hk, h, hv]
  rw [e]
  exact k _ .of (List.length_set ..) (dw_set_self (dw_lt h))
theorem two {ns : List Int} (hn : ns.length ≤ 63) {s : Sto} (hs : seq? s 0 = some (ns.map .int)) : EW (m_law_two [.ref 0] s) fun y s' => Ext s s' ∧ ∃ (n o w : Nat) (kvs kvs' : List (Key × D)) (f g : Bk), y = .ref n ∧ seq? s' n = some [.ref o, .ref w] ∧ dw? s' o = some kvs ∧ dw? s' w = some kvs' ∧ DR kvs f ∧ DR kvs' g ∧ OkB PA f ∧ OkB PA g ∧ kvs.length ≤ 100 ∧ kvs'.length ≤ 100 := by
  refine (ew_run (p := 1) rfl).mpr ?_
  unfold m_law_two_b
  have c0 : ∀ s, seq? s 0 = some (ns.map .int) → m_law_cell_at [.ref 0, .int 0] s = .ok (.int (cellAt ns 0 0)) s := fun s h => cellN h 0
  have c1 : ∀ s, seq? s 0 = some (ns.map .int) → m_law_cell_at [.ref 0, .int 1] s = .ok (.int (cellAt ns 0 1)) s := fun s h => cellN h 1
  have c2 : ∀ s, seq? s 0 = some (ns.map .int) → m_law_cell_at [.ref 0, .int 2] s = .ok (.int (cellAt ns 0 2)) s := fun s h => cellN h 2
  have p30 : ∀ s : Sto, powD (.int 10) (.int 30) s = .ok (.int (10 ^ 30)) s := fun s => pow_ok (by decide) (by decide) (by decide)
  have d30 : ∀ (x : Int) (s : Sto), modD (.int x) (.int (10 ^ 30)) s = .ok (.int (x % 10 ^ 30)) s := fun x s => mod_ok (by decide)
  simp_arith [c0, c1, c2]
  refine (many _ _ s).mono ?_
  rintro y s2 ⟨ts, rfl, rfl, h40, hlt⟩
  have qt : lst? (s ++ [.lst (ts.map tD)]) s.length = some (ts.map tD) := by simp
  have x2 : Ext s (s ++ [.lst (ts.map tD)]) := .app
  generalize s ++ [O.lst (ts.map tD)] = s2 at x2 qt
  have hs2 := x2.sq hs
  (try simp_arith)
  refine y_sl hs2 fun m s3 x3 g3 q3 => ?_
  rw [cutL_map] at q3
  have hcl : (cutL ns (some 3) (some 17)).length ≤ 14 := cutL_le ns 3 17
  generalize cutL ns (some 3) (some 17) = L at q3 hcl
  (try simp_arith)
  refine y_lcY (f := D.int) (g := fun c => tD (tm c)) (y_itseq (seq_of_lst q3)) (by omega) (fun c hc s4 x4 => ?_) fun s4 x4 g4 q4 => ?_
  · refine EW.eq ?_
    simp_arith [tm_eq]
  have qt4 := (x3.trans x4).ls qt
  have e4 : L.map (fun c => tD (tm c)) = (L.map tm).map tD := by rw [List.map_map]; rfl
  rw [e4] at q4
  (try simp_arith)
  refine y_add (seq_of_lst qt4) (seq_of_lst q4) (by simp; omega) fun tn s5 x5 g5 q5 => ?_
  rw [← List.map_append] at q5
  have htl : ∀ t ∈ ts ++ L.map tm, t < 1073741824 := by
    intro t ht
    rcases List.mem_append.mp ht with q | q
    · exact hlt t q
    · obtain ⟨c, _, rfl⟩ := List.mem_map.mp q
      exact tm_lt c
  have hll : (ts ++ L.map tm).length ≤ 54 := by simp; omega
  generalize ts ++ L.map tm = T at q5 htl hll
  have xx : Ext s s5 := ((x2.trans x3).trans x4).trans x5
  have hs5 := xx.sq hs
  have hTl : (T.map tD).length = T.length := List.length_map ..
  have htn := lst_lt q5
  obtain ⟨f0, hf0, hD0⟩ : ∃ f0 : Bk, (∀ x, f0 x = none) ∧ DR [] f0 := ⟨nobook, fun _ => rfl, .nil⟩
  have k0 : OkB PA f0 := fun x d e => by rw [hf0] at e; cases e
  (try simp_arith)
  refine y_dct0 fun on s6 x6 g6 q6 => ?_
  (try simp_arith)
  refine y_dct0 fun wn s7 x7 g7 q7 => ?_
  have q67 := x7.dw q6
  have hne : on ≠ wn := by omega
  simp_arith [hTl]
  refine for_rng (fun i ρ s => ∃ (kvs kvs' : List (Key × D)) (f g : Bk) (a b c : Option D), ρ = [some (.ref 0), some (.int (cellAt ns 0 0)), some (.int (cellAt ns 0 2)), some (.ref tn), a, some (.ref on), some (.ref wn), b, c, none] ∧ Ext s5 s ∧ s7.length ≤ s.length ∧ dw? s on = some kvs ∧ dw? s wn = some kvs' ∧ DR kvs f ∧ DR kvs' g ∧ OkB PA f ∧ OkB PA g ∧ kvs.length ≤ i ∧ kvs'.length ≤ i) (by show _ ≤ 1000000; omega) ?_ ?_ ⟨[], [], f0, f0, _, none, none, rfl, x6.trans x7, Nat.le_refl _, q67, q7, hD0, hD0, k0, k0, by simp, by simp⟩
  · rintro i ρ s' hi ⟨kvs, kvs', f, g, a, b, c, rfl, x, hsl, q, q', hD, hD', hP, hP', hk, hk'⟩
    have hp : T[i]? = some T[i] := List.getElem?_eq_getElem hi
    have hpl := htl T[i] (List.getElem_mem hi)
    generalize T[i] = t at hp hpl
    have ht : seq? s' tn = some (T.map tD) := x.sq (seq_of_lst q5)
    have hss : seq? s' 0 = some (ns.map .int) := x.sq hs5
    unfold m_law_two_l1
    have e1 : (i : Int) + 1 = ((i + 1 : Nat) : Int) := by omega
    have hfd : ∀ s, fdivD (.int (cellAt ns 0 2)) (.int (1 + (i : Int) % 7)) s = .ok (.int (cellAt ns 0 2 / (1 + (i : Int) % 7))) s := fun s => fdiv_ok (by omega) (by omega)
    have htp : (0 : Int) < (T.length : Int) := by omega
    have hmt : ∀ (z : Int) (s : Sto), modD (.int z) (.int (T.length : Int)) s = .ok (.int (z % (T.length : Int))) s := fun z s => mod_ok htp
    simp_arith [e1, cellN hss (i + 1), p30, d30, atI_map hp]
    refine y_putd q key_int (by omega) fun s8 x8 g8 q8 => ?_
    have l8 := len_putD kvs (.inl (t : Int)) (.tup [.str "put", .int (cellAt ns 0 (i + 1) % 10 ^ 30)])
    have hD1 := hD.put hpl (.tup [.str "put", .int (cellAt ns 0 (i + 1) % 10 ^ 30)])
    have hP1 : OkB PA _ := hP.put (a := t) (PA.put (cellAt ns 0 (i + 1) % 10 ^ 30))
    have hv1 := (hD1.val t).trans (put_same ..)
    generalize putD kvs (.inl (t : Int)) (.tup [.str "put", .int (cellAt ns 0 (i + 1) % 10 ^ 30)]) = kvs1 at *
    generalize f.put t (some (.tup [.str "put", .int (cellAt ns 0 (i + 1) % 10 ^ 30)])) = f1 at *
    have hx8 : Ext s5 s8 := x.setx (by omega) x8
    have q8' := x8.dw (Ne.symm hne) q'
    have ht8 : seq? s8 tn = some (T.map tD) := hx8.sq (seq_of_lst q5)
    have hPu : ∀ z : Int, PA (.tup [.str "put", .int z]) := PA.put
    refine sw_cut2 (fun ρ s9 => s9 = s8 ∧ ∃ z : Int, ρ = [some (.ref 0), some (.int (cellAt ns 0 0)), some (.int (cellAt ns 0 2)), some (.ref tn), a, some (.ref on), some (.ref wn), some (.int (i : Int)), some (.int z), none]) ?_ ?_
    · simp_arith [hfd]
      refine br_d (fun _ => ?_) (fun _ => ?_)
      · simp_arith [hTl, hmt]
        refine br_of (fun _ => ?_) (fun _ => ?_)
        · (try simp_arith)
          exact ⟨_, rfl⟩
        · (try simp_arith)
          exact ⟨_, rfl⟩
      · simp_arith
        exact ⟨_, rfl⟩
    rintro ρ s9 ⟨rfl, z, rfl⟩
    simp_arith [atI_map hp]
    refine br_d (fun _ => ?_) (fun _ => ?_)
    · simp_arith [atI_map hp, ix_dk (dk_of_dw q8) (key_int (i := (t : Int))) hv1]
      refine y_putd q8' key_int (by omega) fun s10 x10 g10 q10 => ?_
      have l10 := len_putD kvs' (.inl (t : Int)) (.tup [.str "put", .int (cellAt ns 0 (i + 1) % 10 ^ 30)])
      exact ⟨_, _, _, _, _, _, _, rfl, hx8.setx (by omega) x10, by omega, x10.dw hne q8, q10, hD1, hD'.put hpl _, hP1, hP'.put (PA.put _), by omega, by omega⟩
    · simp_arith
      refine br_d (fun _ => ?_) (fun _ => ?_)
      · simp_arith [p30, atI_map hp]
        refine y_putd q8' key_int (by omega) fun s10 x10 g10 q10 => ?_
        have l10 := len_putD kvs' (.inl (t : Int)) (.tup [.str "put", .int (10 ^ 30 + (i : Int))])
        exact ⟨_, _, _, _, _, _, _, rfl, hx8.setx (by omega) x10, by omega, x10.dw hne q8, q10, hD1, hD'.put hpl _, hP1, hP'.put (PA.put _), by omega, by omega⟩
      · have hin := in_dk (dk_of_dw q8') (key_int (i := (t : Int)))
        rw [hD'.val t] at hin
        simp_arith [atI_map hp, hin]
        cases e : g t with
        | none =>
          simp_arith [Option.isSome_none]
          exact ⟨_, _, _, _, _, _, _, rfl, hx8, by omega, q8, q8', hD1, hD', hP1, hP', by omega, by omega⟩
        | some d =>
          simp_arith [Option.isSome_some]
          refine y_dpopS (x := .int (t : Int)) (n := wn) (fun _ => rfl) (EW.eq (by simp_arith [atI_map hp])) q8' key_int ((hD'.val t).trans e) fun s10 x10 g10 q10 => ?_
          have h2 : (dropD kvs' (.inl (t : Int))).length ≤ kvs'.length := List.length_filter_le ..
          exact ⟨_, _, _, _, _, _, _, rfl, hx8.setx (by omega) x10, by omega, x10.dw hne q8, q10, hD1, hD'.drop t, hP1, hP'.out, by omega, by omega⟩
  rintro ρ s8 ⟨kvs, kvs', f, g, a, b, c, rfl, x8, hsl8, q8, q8', hD, hD', hP, hP', hk, hk'⟩
  have hs8 := x8.sq hs5
  (try simp_arith)
  refine y_sl hs8 fun m9 s9 x9 g9 q9 => ?_
  rw [cutL_map] at q9
  have hcl9 : (cutL ns (some 17) (some 31)).length ≤ 14 := cutL_le ns 17 31
  generalize cutL ns (some 17) (some 31) = L9 at q9 hcl9
  have hm9 := lst_lt q9
  have q89 := x9.dw q8
  have q89' := x9.dw q8'
  simp_arith
  refine y_for (f := D.int) (l := L9) (fun i ρ s => ∃ (kvs' : List (Key × D)) (g : Bk) (a : Option D), ρ = [some (.ref 0), some (.int (cellAt ns 0 0)), some (.int (cellAt ns 0 2)), some (.ref tn), a, some (.ref on), some (.ref wn), b, c, none] ∧ Ext s5 s ∧ s9.length ≤ s.length ∧ seq? s m9 = some (L9.map D.int) ∧ dw? s on = some kvs ∧ dw? s wn = some kvs' ∧ DR kvs' g ∧ OkB PA g ∧ kvs'.length ≤ 54 + i) (by omega) (fun i ρ s h => by
    obtain ⟨_, _, v, _, _, _, q, _⟩ := h
    exact q) ?_ ?_ ⟨kvs', g, _, rfl, x8.trans x9, Nat.le_refl _, seq_of_lst q9, q89, q89', hD', hP', by omega⟩
  · rintro i ρ s' p hp hi ⟨kvs', g, a, rfl, x, hsl, qm, q, q', hD', hP', hk'⟩
    unfold m_law_two_l2
    have hin := nin_dk (dk_of_dw q') (key_int (i := (tm p : Int)))
    rw [hD'.val (tm p)] at hin
    simp_arith [tm_eq, hin]
    cases e : g (tm p) with
    | some d =>
      simp_arith [Option.isSome_some]
      exact ⟨_, _, _, rfl, x, hsl, qm, q, q', hD', hP', by omega⟩
    | none =>
      simp_arith [Option.isSome_none, p30, d30, tm_eq]
      refine y_putd q' key_int (by omega) fun s10 x10 g10 q10 => ?_
      have l10 := len_putD kvs' (.inl (tm p : Int)) (.tup [.str "add", .int (p % 10 ^ 30)])
      exact ⟨_, _, _, rfl, x.setx (by omega) x10, by omega, x10.sq (by omega) qm, x10.dw hne q, q10, hD'.put (tm_lt p) _, hP'.put (PA.add _), by omega⟩
  clear hD' hP' hk' q8' q89'
  rintro ρ s10 ⟨kvs', g, a, rfl, x10, hsl10, qm10, q10, q10', hD', hP', hk'⟩
  refine sw_cut (fun ρ s => ∃ (kvs' : List (Key × D)) (g : Bk) (t : Option D), ρ = [some (.ref 0), some (.int (cellAt ns 0 0)), some (.int (cellAt ns 0 2)), some (.ref tn), a, some (.ref on), some (.ref wn), b, c, t] ∧ Ext s5 s ∧ dw? s on = some kvs ∧ dw? s wn = some kvs' ∧ DR kvs' g ∧ OkB PA g ∧ kvs'.length ≤ 100) ?_ ?_
  · simp_arith
    refine br_d (fun _ => ?_) (fun _ => ?_)
    · refine y_lock rfl q10 fun s11 x11 g11 q11 => ?_
      (try simp_arith)
      refine (ef_keys rfl q11).mpr ?_
      (try simp_arith)
      obtain ⟨ks, hks, nk, lk_, mk_⟩ := hD.keysN
      have q11' := x11.dw (Ne.symm hne) q10'
      refine y_forC (f := tD) (l := ks) (it_keys hks) (fun i ρ s => ∃ (kvs' : List (Key × D)) (g : Bk) (v : Option D), ρ = [some (.ref 0), some (.int (cellAt ns 0 0)), some (.int (cellAt ns 0 2)), some (.ref tn), a, some (.ref on), some (.ref wn), b, c, v] ∧ Ext s5 s ∧ s11.length ≤ s.length ∧ lk? s on = some kvs ∧ dw? s wn = some kvs' ∧ DR kvs' g ∧ OkB PA g ∧ kvs'.length ≤ 100) (by omega) ?_ ?_ ⟨kvs', g, none, rfl, x10.setx (by omega) x11, Nat.le_refl _, q11, q11', hD', hP', by omega⟩
      · rintro i ρ s t ht hi ⟨kvs', g, v, rfl, x, hsl, q, q', hD', hP', hk'⟩
        unfold m_law_two_l3
        have hfa := (mk_ t).mp (List.mem_of_getElem? ht)
        obtain ⟨d, hd⟩ : ∃ d, f t = some d := Option.ne_none_iff_exists'.mp hfa
        have hv := (hD.val t).trans hd
        have hix := ix_dk (dk_of_lk q) (key_int (i := (t : Int))) hv
        have hget : getOf (.ref wn) (.int (t : Int)) .non s = .ok ((g t).getD .non) s := by
          rw [get_dk (dk_of_dw q') (key_int (i := (t : Int))), hD'.val t]
        have hdk := isDk_ (dk_of_dw q')
        have hdP := hP t d hd
        have heq : eqD ((g t).getD .non) d s = .ok (.bl (eqB ((g t).getD .non) d)) s := eqD_ok (pa_get hP' t).1 (pa_okT hdP)
        simp_arith [hdk, hget, hix, heq]
        cases e : eqB ((g t).getD .non) d with
        | false =>
          simp_arith
          exact ⟨_, _, _, rfl, x, hsl, q, q', hD', hP', hk'⟩
        | true =>
          obtain ⟨d', hd'⟩ : ∃ d', g t = some d' := by
            cases e2 : g t with
            | some d' => exact ⟨d', rfl⟩
            | none =>
              rw [e2, Option.getD_none, eqB_none hdP] at e
              cases e
          simp_arith
          refine y_dpop (x := .int (t : Int)) (n := wn) (fun _ => rfl) (fun _ => rfl) q' key_int ((hD'.val t).trans hd') fun s12 x12 g12 q12 => ?_
          have h2 : (dropD kvs' (.inl (t : Int))).length ≤ kvs'.length := List.length_filter_le ..
          exact ⟨_, _, _, rfl, x.setx (by omega) x12, by omega, x12.lk hne q, q12, hD'.drop t, hP'.out, by omega⟩
      · rintro ρ s ⟨kvs', g, v, rfl, x, hsl, q, q', hD', hP', hk'⟩
        refine ⟨q, fun s12 x12 g12 q12 => ?_⟩
        exact ⟨_, _, _, rfl, x.setx (by omega) x12, q12, x12.dw (Ne.symm hne) q', hD', hP', hk'⟩
    · simp_arith
      exact ⟨_, _, _, rfl, x10, q10, q10', hD', hP', by omega⟩
  clear hD' hP' hk' q10'
  rintro ρ s11 ⟨kvs', g, t, rfl, x11, q11, q11', hD', hP', hk'⟩
  (try simp_arith)
  refine y_lst ?_
  (try simp_arith)
  refine fun n s12 x12 g12 q12 => ?_
  exact ⟨(xx.trans x11).trans x12, n, on, wn, kvs, kvs', f, g, rfl, seq_of_lst q12, x12.dw q11, x12.dw q11', hD, hD', hP, hP', by omega, hk'⟩
theorem law_true : ∀ ns : List Int, ns.length ≤ 63 → ∃ s', m_law [.ref 0] [.scr (ns.map D.int)] = .ok (.bl true) s' := by
  intro ns hn
  have h : EW (m_law [.ref 0] [.scr (ns.map D.int)]) fun d s' => d = .bl true := by
    refine (ew_run rfl).mpr ?_
    unfold m_law_b
    have h0 : seq? [.scr (ns.map D.int)] 0 = some (ns.map .int) := rfl
    generalize [O.scr (ns.map D.int)] = s0 at h0
    (try simp_arith)
    refine (two hn h0).mono ?_
    rintro y s1 ⟨x1, n, o, w, kvs, kvs', f, g, rfl, q, q1, q1', hD, hD', hP, hP', hk, hk'⟩
    have nf : (rows f).length ≤ 300 := by rw [hD.len]; omega
    have ng : (rows g).length ≤ 300 := by rw [hD'.len]; omega
    obtain ⟨f0, hf0, hD0⟩ : ∃ f0 : Bk, (∀ x, f0 x = none) ∧ DR [] f0 := ⟨nobook, fun _ => rfl, .nil⟩
    have m0 : mk 30 0 f0 = none := mk_none.mpr fun x _ _ => hf0 x
    have r0 : (rows f0).length ≤ 300 := by rw [hD0.len]; simp
    have k0 : OkB PA f0 := fun x d e => by rw [hf0] at e; cases e
    simp_arith
    refine (grown (dk_of_dw q1) hD (by omega)).mono ?_
    rintro y s2 ⟨rfl, x2⟩
    simp_arith
    refine (grown (dk_of_dw (x2.dw q1')) hD' (by omega)).mono ?_
    rintro y s3 ⟨rfl, x3⟩
    have lt : ∀ {f g : Bk}, (rows g).length ≤ 300 → (tchO f (mk 30 0 g)).length ≤ 1000 := fun {f g} h => by
      have := tchO_len (f := f) (o := mk 30 0 g) (n := 300) (by rw [mk_row]; exact h)
      omega
    have same : ∀ f : Bk, tchO f (mk 30 0 f) = [] := fun f => by
      cases e : mk 30 0 f with
      | none => rfl
      | some t =>
        obtain ⟨⟨a1, a2, a3⟩, a4, a5, a6⟩ := mk_in (by decide) e
        show tch f t = []
        cases t with
        | lf a d => unfold tch; exact if_pos a6
        | kn lo b l r => unfold tch; exact if_pos a6
    (try simp_arith)
    refine (tch_ hP hP' nf ng s3).mono ?_
    rintro y s4 ⟨x4, n4, rfl, g4, q4⟩
    (try simp_arith)
    refine (due hP hP' nf ng s4).mono ?_
    rintro y s5 ⟨x5, n5, rfl, g5, q5⟩
    simp_arith [alike (x5.ls q4) (seq_of_lst q5) (lt ng)]
    refine (tch_ hP' hP ng nf s5).mono ?_
    rintro y s6 ⟨x6, n6, rfl, g6, q6⟩
    (try simp_arith)
    refine (due hP' hP ng nf s6).mono ?_
    rintro y s7 ⟨x7, n7, rfl, g7, q7⟩
    simp_arith [alike (x7.ls q6) (seq_of_lst q7) (lt nf)]
    refine (tch_ hP hP nf nf s7).mono ?_
    rintro y s8 ⟨x8, n8, rfl, g8, q8⟩
    rw [same] at q8
    (try simp_arith)
    refine y_lst0 fun n9 s9 x9 g9 q9 => ?_
    simp_arith [neD_same (x9.sq (seq_of_lst q8)) (seq_of_lst q9) rfl]
    have t0 : (rows f0).length ≤ 300 → tchO g (mk 30 0 f0) = [] := fun _ => by rw [m0]; rfl
    have hn0 : D.non = oD plainK (mk 30 0 f0) := by rw [m0]; rfl
    have htn : ∀ s, EW (m_touched [oD plainK (mk 30 0 g), .non] s) fun y s' => Ext s s' ∧ ∃ n, y = .ref n ∧ s.length ≤ n ∧ lst? s' n = some [] := fun s => by
      rw [hn0]
      have := tch_ hP' k0 ng r0 s
      rw [t0 r0] at this
      exact this
    have htf : ∀ s, EW (m_touched [.non, oD plainK (mk 30 0 g)] s) fun y s' => Ext s s' ∧ ∃ n, y = .ref n ∧ s.length ≤ n ∧ lst? s' n = some ((tchO f0 (mk 30 0 g)).map stD) := fun s => by
      rw [hn0]
      exact tch_ k0 hP' r0 ng s
    have hdf : ∀ s, EW (m_law_due [.non, oD plainK (mk 30 0 g)] s) fun y s' => Ext s s' ∧ ∃ n, y = .ref n ∧ s.length ≤ n ∧ lst? s' n = some ((tchO f0 (mk 30 0 g)).map stD) := fun s => by
      rw [hn0]
      exact due k0 hP' r0 ng s
    refine (htn s9).mono ?_
    rintro y s10 ⟨x10, n10, rfl, g10, q10⟩
    (try simp_arith)
    refine y_lst0 fun n11 s11 x11 g11 q11 => ?_
    simp_arith [neD_same (x11.sq (seq_of_lst q10)) (seq_of_lst q11) rfl]
    refine (htf s11).mono ?_
    rintro y s12 ⟨x12, n12, rfl, g12, q12⟩
    (try simp_arith)
    refine (hdf s12).mono ?_
    rintro y s13 ⟨x13, n13, rfl, g13, q13⟩
    simp_arith [alike (x13.ls q12) (seq_of_lst q13) (lt ng)]
  obtain ⟨d, s', e, rfl⟩ := h.ex
  exact ⟨s', e⟩
end LW

namespace LW
open PySem L2 PD HW
structure Fr (mg : PySem.Str → Option Value) : Prop where
  f_bool : mg "bool" = none
  f_isinstance : mg "isinstance" = none
  f_len : mg "len" = none
  f_list : mg "list" = none
  f_range : mg "range" = none
  f_sorted : mg "sorted" = none
  f_tuple : mg "tuple" = none
theorem bt_bool : bootBuiltins "bool" = some (.type "bool") := by decide +kernel
theorem bt_len : bootBuiltins "len" = some (.builtin "len") := by decide +kernel
theorem bt_list : bootBuiltins "list" = some (.type "list") := by decide +kernel
theorem bt_sorted : bootBuiltins "sorted" = some (.builtin "sorted") := by decide +kernel
theorem bt_tuple : bootBuiltins "tuple" = some (.type "tuple") := by decide +kernel
section
variable {P : Program} {w : World} {K : PySem.W.Frag} {mg : PySem.Str → Option Value} {base : Heap}
theorem sc_m_law_cell_at : FnScope ["_law_script", "_law_k"] ["_law_script", "_law_k"] (defScope (top 19)) := ⟨rfl, rfl, rfl, by decide +kernel, rfl, by decide +kernel, by decide +kernel⟩
theorem ok_m_law_cell_at (B : Fr mg)  {at_ : PySem.Str × Option PySem.Str} {fd : FuncData} (F : FunP K at_ "_law_cell_at" "_law_cell_at" (top 19) fd) (hm : mg "_law_cell_at" = some (.ref (He.fAd K at_))) : Fg P w K mg base "_law_cell_at" ["_law_script", "_law_k"] 1 m_law_cell_at :=
  Fg.of hm F.kp (F.bindsN fun _ _ _ _ _ _ us hl => match us, hl with | [_, _], _ => rfl) rfl (fn_body (k := 0) F sc_m_law_cell_at rfl rfl (fun cdv A outer s H E X hX hr tk hp => by
    subst hX
    have sc := sc_m_law_cell_at
    exact (jb_cons (js_if (jt_cmp jo_lt (je_var 1) (je_callB jc_len rfl B.f_len bt_len (ja_cons (je_var 0) ja_nil)) (nomark _)) (jb_one (js_ret (je_ix hr (je_var 0) (je_var 1) (fun _ _ => rfl)))) jb_nil) (jb_one (js_ret je_int)))))
theorem sc_m_law_many : FnScope ["_law_head", "_law_start", "_law_way", "_law_rest", "_law_k"] ["_law_head", "_law_start"] (defScope (top 20)) := ⟨rfl, rfl, rfl, by decide +kernel, rfl, by decide +kernel, by decide +kernel⟩
theorem ok_m_law_many (B : Fr mg)  {at_ : PySem.Str × Option PySem.Str} {fd : FuncData} (F : FunP K at_ "_law_many" "_law_many" (top 20) fd) (hm : mg "_law_many" = some (.ref (He.fAd K at_))) : Fg P w K mg base "_law_many" ["_law_head", "_law_start"] 1 m_law_many :=
  Fg.of hm F.kp (F.bindsN fun _ _ _ _ _ _ us hl => match us, hl with | [_, _], _ => rfl) rfl (fn_body (k := 0) F sc_m_law_many rfl rfl (fun cdv A outer s H E X hX hr tk hp => by
    subst hX
    have sc := sc_m_law_many
    exact (jb_cons (js_set (i := 2) sc.nd (je_op jo_mod (je_var 0) je_int)) (jb_cons (js_set (i := 3) sc.nd (je_op jo_fdiv (je_var 0) je_int)) (jb_cons (js_if (jt_cmp (jo_eq hr) (je_var 2) je_int (nomark _)) (jb_one (js_ret (je_lc (own := [("_law_k", 4)]) (t := (.one 4)) rfl sc.nd (ji_rng1 rfl B.f_range (je_op jo_mod (je_var 3) je_int)) (blkOk_by (N := ["_law_head", "_law_start", "_law_way", "_law_rest", "_law_k"]) (sc := defScope (top 20)) (by decide +kernel)) (by decide) (fun _ _ _ _ _ => jct_one sc.nd) (fun _ _ _ _ _ => jts_nil) (fun _ _ _ _ _ => (je_op jo_mod (je_op jo_add (je_var 1) (je_op jo_mul (je_var 4) (je_op jo_shl je_int (je_op jo_mod (je_op jo_fdiv (je_var 3) je_int) je_int)))) je_int))))) jb_nil) (jb_cons (js_if (jt_cmp (jo_eq hr) (je_var 2) je_int (nomark _)) (jb_one (js_ret (je_lc (own := [("_law_k", 4)]) (t := (.one 4)) rfl sc.nd (ji_rng1 rfl B.f_range (je_op jo_mod (je_var 3) je_int)) (blkOk_by (N := ["_law_head", "_law_start", "_law_way", "_law_rest", "_law_k"]) (sc := defScope (top 20)) (by decide +kernel)) (by decide) (fun _ _ _ _ _ => jct_one sc.nd) (fun _ _ _ _ _ => jts_nil) (fun _ _ _ _ _ => (je_op jo_shl je_int (je_var 4)))))) jb_nil) (jb_cons (js_if (jt_cmp (jo_eq hr) (je_var 2) je_int (nomark _)) (jb_one (js_ret (je_lc (own := [("_law_k", 4)]) (t := (.one 4)) rfl sc.nd (ji_rng1 rfl B.f_range (je_op jo_mod (je_var 3) je_int)) (blkOk_by (N := ["_law_head", "_law_start", "_law_way", "_law_rest", "_law_k"]) (sc := defScope (top 20)) (by decide +kernel)) (by decide) (fun _ _ _ _ _ => jct_one sc.nd) (fun _ _ _ _ _ => jts_nil) (fun _ _ _ _ _ => (je_op jo_sub je_int (je_op jo_shl je_int (je_var 4))))))) jb_nil) (jb_one (js_ret (je_lst ja_nil))))))))))
theorem sc_m_law_time : FnScope ["_law_cell", "_law_rest"] ["_law_cell"] (defScope (top 21)) := ⟨rfl, rfl, rfl, by decide +kernel, rfl, by decide +kernel, by decide +kernel⟩
theorem ok_m_law_time (B : Fr mg)  {at_ : PySem.Str × Option PySem.Str} {fd : FuncData} (F : FunP K at_ "_law_time" "_law_time" (top 21) fd) (hm : mg "_law_time" = some (.ref (He.fAd K at_))) : Fg P w K mg base "_law_time" ["_law_cell"] 1 m_law_time :=
  Fg.of hm F.kp (F.bindsN fun _ _ _ _ _ _ us hl => match us, hl with | [_], _ => rfl) rfl (fn_body (k := 0) F sc_m_law_time rfl rfl (fun cdv A outer s H E X hX hr tk hp => by
    subst hX
    have sc := sc_m_law_time
    exact (jb_cons (js_set (i := 1) sc.nd (je_op jo_fdiv (je_var 0) je_int)) (jb_cons (js_if (jt_cmp (jo_eq hr) (je_op jo_mod (je_var 0) je_int) je_int (nomark _)) (jb_one (js_ret (je_op jo_mod (je_var 1) je_int))) jb_nil) (jb_cons (js_if (jt_cmp (jo_eq hr) (je_op jo_mod (je_var 0) je_int) je_int (nomark _)) (jb_one (js_ret (je_op jo_sub je_int (je_op jo_mod (je_var 1) je_int)))) jb_nil) (jb_one (js_ret (je_op jo_mod (je_var 1) je_int))))))))
theorem sc_m_law_two : FnScope ["_law_script", "_law_head", "_law_mask", "_law_times", "_law_cell", "_law_old", "_law_new", "_law_k", "_law_way", "_law_time_here"] ["_law_script"] (defScope (top 26)) := ⟨rfl, rfl, rfl, by decide +kernel, rfl, by decide +kernel, by decide +kernel⟩
theorem ok_m_law_two (B : Fr mg) (h_m_law_cell_at : Fg P w K mg base "_law_cell_at" ["_law_script", "_law_k"] 1 m_law_cell_at) (h_m_law_many : Fg P w K mg base "_law_many" ["_law_head", "_law_start"] 1 m_law_many) (h_m_law_time : Fg P w K mg base "_law_time" ["_law_cell"] 1 m_law_time) {at_ : PySem.Str × Option PySem.Str} {fd : FuncData} (F : FunP K at_ "_law_two" "_law_two" (top 26) fd) (hm : mg "_law_two" = some (.ref (He.fAd K at_))) : Fg P w K mg base "_law_two" ["_law_script"] 2 m_law_two :=
  Fg.of hm F.kp (F.bindsN fun _ _ _ _ _ _ us hl => match us, hl with | [_], _ => rfl) rfl (fn_body (k := 1) F sc_m_law_two rfl rfl (fun cdv A outer s H E X hX hr tk hp => by
    subst hX
    have sc := sc_m_law_two
    exact (jb_cons (js_set (i := 1) sc.nd (je_call h_m_law_cell_at (hr.mono (by first | decide | omega)) tk (ja_cons (je_var 0) (ja_cons je_int ja_nil)))) (jb_cons (js_set (i := 2) sc.nd (je_call h_m_law_cell_at (hr.mono (by first | decide | omega)) tk (ja_cons (je_var 0) (ja_cons je_int ja_nil)))) (jb_cons (js_set (i := 3) sc.nd (je_op jo_add (je_call h_m_law_many (hr.mono (by first | decide | omega)) tk (ja_cons (je_var 1) (ja_cons (je_call h_m_law_cell_at (hr.mono (by first | decide | omega)) tk (ja_cons (je_var 0) (ja_cons je_int ja_nil))) ja_nil))) (je_lc (own := [("_law_cell", 4)]) (t := (.one 4)) rfl sc.nd (ji_any (je_slice (je_var 0) (jp_some je_int) (jp_some je_int))) (blkOk_by (N := ["_law_script", "_law_head", "_law_mask", "_law_times", "_law_cell", "_law_old", "_law_new", "_law_k", "_law_way", "_law_time_here"]) (sc := defScope (top 26)) (by decide +kernel)) (by decide) (fun _ _ _ _ _ => jct_one sc.nd) (fun _ _ _ _ _ => jts_nil) (fun _ _ _ _ _ => (je_call h_m_law_time (hr.mono (by first | decide | omega)) takes0 (ja_cons (je_var 4) ja_nil)))))) (jb_cons (js_set (i := 5) sc.nd je_dct0) (jb_cons (js_set (i := 6) sc.nd je_dct0) (jb_cons (js_for hp rfl (ji_rng1 rfl B.f_range (je_callB jc_len rfl B.f_len bt_len (ja_cons (je_var 3) ja_nil))) (jg_name (i := 7) sc.nd) (jb_cons (js_put hr (je_tup (ja_cons je_str (ja_cons (je_op jo_mod (je_call h_m_law_cell_at (hr.mono (by first | decide | omega)) tk (ja_cons (je_var 0) (ja_cons (je_op jo_add (je_var 7) je_int) ja_nil))) (je_op jo_pow je_int je_int)) ja_nil))) (je_var 5) (je_ix hr (je_var 3) (je_var 7) (fun _ _ => rfl))) (jb_cons (js_set (i := 8) sc.nd (je_op jo_mod (je_op jo_fdiv (je_var 2) (je_op jo_add je_int (je_op jo_mod (je_var 7) je_int))) je_int)) (jb_cons (js_if (JW.jt (jw_and (jt_cmp (jo_eq hr) (je_op jo_mod (je_var 2) je_int) je_int (nomark _)) (jw_and1 (jt_cmp (jo_ne hr) (je_var 7) (je_op jo_mod (je_op jo_fdiv (je_var 2) je_int) (je_callB jc_len rfl B.f_len bt_len (ja_cons (je_var 3) ja_nil))) (nomark _))))) (jb_one (js_set (i := 8) sc.nd je_int)) jb_nil) (jb_one (js_if (jt_cmp jo_lt (je_var 8) je_int (nomark _)) (jb_one (js_put hr (je_ix hr (je_var 5) (je_ix hr (je_var 3) (je_var 7) (fun _ _ => rfl)) (fun _ _ => rfl)) (je_var 6) (je_ix hr (je_var 3) (je_var 7) (fun _ _ => rfl)))) (jb_one (js_if (jt_cmp (jo_eq hr) (je_var 8) je_int (nomark _)) (jb_one (js_put hr (je_tup (ja_cons je_str (ja_cons (je_op jo_add (je_op jo_pow je_int je_int) (je_var 7)) ja_nil))) (je_var 6) (je_ix hr (je_var 3) (je_var 7) (fun _ _ => rfl)))) (jb_one (js_if (jt_cmp (jo_in hr) (je_ix hr (je_var 3) (je_var 7) (fun _ _ => rfl)) (je_var 6) (by rfl)) (jb_one (js_expr (je_pop1 (je_dpop (je_var 6) (je_ix hr (je_var 3) (je_var 7) (fun _ _ => rfl))) (je_lm PySem.F.slot_list_pop PySem.F.type_list_pop jm_popAt (je_var 6) (ja_cons (je_ix hr (je_var 3) (je_var 7) (fun _ _ => rfl)) ja_nil))))) jb_nil)))))))))) (jb_cons (js_for hp rfl (ji_any (je_slice (je_var 0) (jp_some je_int) (jp_some je_int))) (jg_name (i := 4) sc.nd) (jb_one (js_if (jt_cmp (jo_nin hr) (je_call h_m_law_time (hr.mono (by first | decide | omega)) tk (ja_cons (je_var 4) ja_nil)) (je_var 6) (by rfl)) (jb_one (js_put hr (je_tup (ja_cons je_str (ja_cons (je_op jo_mod (je_var 4) (je_op jo_pow je_int je_int)) ja_nil))) (je_var 6) (je_call h_m_law_time (hr.mono (by first | decide | omega)) tk (ja_cons (je_var 4) ja_nil)))) jb_nil))) (jb_cons (js_if (jt_cmp (jo_eq hr) (je_op jo_mod (je_var 2) je_int) je_int (nomark _)) (jb_one (js_lock (i := 5) (js_for hp rfl (ji_keysL (je_var 5)) (jg_name (i := 9) sc.nd) (jb_one (js_if (jt_cmp (jo_eq hr) (je_get1 hr (je_var 6) (je_var 9)) (je_ix hr (je_var 5) (je_var 9) (fun _ _ => rfl)) (nomark _)) (jb_one (js_expr (je_pop1 (je_dpop (je_var 6) (je_var 9)) (je_lm PySem.F.slot_list_pop PySem.F.type_list_pop jm_popAt (je_var 6) (ja_cons (je_var 9) ja_nil))))) jb_nil))))) jb_nil) (jb_one (js_ret (je_lst (ja_cons (je_var 5) (ja_cons (je_var 6) ja_nil)))))))))))))))
theorem sc_m_least : FnScope ["one", "other", "unlike", "bits"] ["one", "other"] (defScope (top 4)) := ⟨rfl, rfl, rfl, by decide +kernel, rfl, by decide +kernel, by decide +kernel⟩
theorem ok_m_least (B : Fr mg)  {at_ : PySem.Str × Option PySem.Str} {fd : FuncData} (F : FunP K at_ "least" "least" (top 4) fd) (hm : mg "least" = some (.ref (He.fAd K at_))) : Fg P w K mg base "least" ["one", "other"] 1 m_least :=
  Fg.of hm F.kp (F.bindsN fun _ _ _ _ _ _ us hl => match us, hl with | [_, _], _ => rfl) rfl (fn_body (k := 0) F sc_m_least rfl rfl (fun cdv A outer s H E X hX hr tk hp => by
    subst hX
    have sc := sc_m_least
    exact (jb_cons (js_set (i := 2) sc.nd (je_op jo_bor (je_op jo_bor (je_op jo_bxor (je_ix hr (je_var 0) je_int (fun _ _ => rfl)) (je_ix hr (je_var 1) je_int (fun _ _ => rfl))) (je_op jo_sub (je_ix hr (je_var 0) je_int (fun _ _ => rfl)) je_int)) (je_op jo_sub (je_ix hr (je_var 1) je_int (fun _ _ => rfl)) je_int))) (jb_cons (js_set (i := 3) sc.nd (je_bits (je_var 2))) (jb_one (js_ret (je_tup (ja_cons (je_op jo_shl (je_op jo_shr (je_ix hr (je_var 0) je_int (fun _ _ => rfl)) (je_var 3)) (je_var 3)) (ja_cons (je_op jo_shl je_int (je_var 3)) ja_nil)))))))))
theorem sc_m_Kind_joined : FnScope ["self", "one", "other"] ["self", "one", "other"] (defScope (inClass (top 17) 4)) := ⟨rfl, rfl, rfl, by decide +kernel, rfl, by decide +kernel, by decide +kernel⟩
theorem ok_m_Kind_joined (B : Fr mg)  {at_ : PySem.Str × Option PySem.Str} {fd : FuncData} (F : FunP K at_ "joined" "Kind.joined" (inClass (top 17) 4) fd) : FnOk P w K mg base (L2.CX P w) 1 (He.fAd K at_) fd ["self", "one", "other"] (spG K 3 m_Kind_joined) :=
  fn_body (k := 0) F sc_m_Kind_joined rfl rfl (fun cdv A outer s H E X hX hr tk hp => by
    subst hX
    have sc := sc_m_Kind_joined
    exact (jb_one (js_ret (je_op jo_add (je_var 1) (je_var 2)))))
theorem len_m_Kind_joined (ds : List D) (s : Sto) (h : m_Kind_joined ds s ≠ .bad) : ds.length = 3 := run_len h
theorem bn_m_Kind_joined {at_ : PySem.Str × Option PySem.Str} {fd : FuncData} (F : FunP K at_ "joined" "Kind.joined" (inClass (top 17) 4) fd) : Binds K fd ["self", "one", "other"] [] := F.bindsN fun _ _ _ _ _ _ us hl => match us, hl with | [_, _, _], _ => rfl
theorem sc_m_knot : FnScope ["kind", "left", "right", "low", "size"] ["kind", "left", "right"] (defScope (top 10)) := ⟨rfl, rfl, rfl, by decide +kernel, rfl, by decide +kernel, by decide +kernel⟩
theorem ok_m_knot (B : Fr mg) (h_m_least : Fg P w K mg base "least" ["one", "other"] 1 m_least) (h_m_joined : AllM P w K mg base "joined" ["self", "one", "other"] 1 tab_joined) {at_ : PySem.Str × Option PySem.Str} {fd : FuncData} (F : FunP K at_ "knot" "knot" (top 10) fd) (hm : mg "knot" = some (.ref (He.fAd K at_))) : Fg P w K mg base "knot" ["kind", "left", "right"] 2 m_knot :=
  Fg.of hm F.kp (F.bindsN fun _ _ _ _ _ _ us hl => match us, hl with | [_, _, _], _ => rfl) rfl (fn_body (k := 1) F sc_m_knot rfl rfl (fun cdv A outer s H E X hX hr tk hp => by
    subst hX
    have sc := sc_m_knot
    exact (jb_cons (js_asg (je_call h_m_least (hr.mono (by first | decide | omega)) tk (ja_cons (je_slice (je_var 1) jp_none (jp_some je_int)) (ja_cons (je_slice (je_var 2) jp_none (jp_some je_int)) ja_nil))) (jg_tup rfl (jgs_cons (jg_name (i := 3) sc.nd) (jgs_cons (jg_name (i := 4) sc.nd) jgs_nil)))) (jb_one (js_ret (je_tup (ja_cons (je_var 3) (ja_cons (je_var 4) (ja_cons (je_meth h_m_joined (hr.mono (by first | decide | omega)) tk (je_var 0) (ja_cons (je_ix hr (je_var 1) je_int (fun _ _ => rfl)) (ja_cons (je_ix hr (je_var 2) je_int (fun _ _ => rfl)) ja_nil))) (ja_cons (je_var 1) (ja_cons (je_var 2) ja_nil)))))))))))
theorem sc_m_Kind_lone : FnScope ["self", "at", "deed"] ["self", "at", "deed"] (defScope (inClass (top 17) 2)) := ⟨rfl, rfl, rfl, by decide +kernel, rfl, by decide +kernel, by decide +kernel⟩
theorem ok_m_Kind_lone (B : Fr mg)  {at_ : PySem.Str × Option PySem.Str} {fd : FuncData} (F : FunP K at_ "lone" "Kind.lone" (inClass (top 17) 2) fd) : FnOk P w K mg base (L2.CX P w) 1 (He.fAd K at_) fd ["self", "at", "deed"] (spG K 3 m_Kind_lone) :=
  fn_body (k := 0) F sc_m_Kind_lone rfl rfl (fun cdv A outer s H E X hX hr tk hp => by
    subst hX
    have sc := sc_m_Kind_lone
    exact (jb_one (js_ret je_int)))
theorem len_m_Kind_lone (ds : List D) (s : Sto) (h : m_Kind_lone ds s ≠ .bad) : ds.length = 3 := run_len h
theorem bn_m_Kind_lone {at_ : PySem.Str × Option PySem.Str} {fd : FuncData} (F : FunP K at_ "lone" "Kind.lone" (inClass (top 17) 2) fd) : Binds K fd ["self", "at", "deed"] [] := F.bindsN fun _ _ _ _ _ _ us hl => match us, hl with | [_, _, _], _ => rfl
theorem sc_m_leaf : FnScope ["kind", "at", "deed"] ["kind", "at", "deed"] (defScope (top 9)) := ⟨rfl, rfl, rfl, by decide +kernel, rfl, by decide +kernel, by decide +kernel⟩
theorem ok_m_leaf (B : Fr mg) (h_m_lone : AllM P w K mg base "lone" ["self", "at", "deed"] 1 tab_lone) {at_ : PySem.Str × Option PySem.Str} {fd : FuncData} (F : FunP K at_ "leaf" "leaf" (top 9) fd) (hm : mg "leaf" = some (.ref (He.fAd K at_))) : Fg P w K mg base "leaf" ["kind", "at", "deed"] 2 m_leaf :=
  Fg.of hm F.kp (F.bindsN fun _ _ _ _ _ _ us hl => match us, hl with | [_, _, _], _ => rfl) rfl (fn_body (k := 1) F sc_m_leaf rfl rfl (fun cdv A outer s H E X hX hr tk hp => by
    subst hX
    have sc := sc_m_leaf
    exact (jb_one (js_ret (je_tup (ja_cons (je_var 1) (ja_cons je_int (ja_cons (je_meth h_m_lone (hr.mono (by first | decide | omega)) tk (je_var 0) (ja_cons (je_var 1) (ja_cons (je_var 2) ja_nil))) (ja_cons (je_var 2) ja_nil)))))))))
theorem sc_m_holds : FnScope ["stretch", "number"] ["stretch", "number"] (defScope (top 2)) := ⟨rfl, rfl, rfl, by decide +kernel, rfl, by decide +kernel, by decide +kernel⟩
theorem ok_m_holds (B : Fr mg)  {at_ : PySem.Str × Option PySem.Str} {fd : FuncData} (F : FunP K at_ "holds" "holds" (top 2) fd) (hm : mg "holds" = some (.ref (He.fAd K at_))) : Fg P w K mg base "holds" ["stretch", "number"] 1 m_holds :=
  Fg.of hm F.kp (F.bindsN fun _ _ _ _ _ _ us hl => match us, hl with | [_, _], _ => rfl) rfl (fn_body (k := 0) F sc_m_holds rfl rfl (fun cdv A outer s H E X hX hr tk hp => by
    subst hX
    have sc := sc_m_holds
    exact (jb_one (js_ret (je_chain jo_le jo_lt (je_ix hr (je_var 0) je_int (fun _ _ => rfl)) (je_var 1) (je_op jo_add (je_ix hr (je_var 0) je_int (fun _ _ => rfl)) (je_ix hr (je_var 0) je_int (fun _ _ => rfl))))))))
theorem sc_m_middle : FnScope ["tree"] ["tree"] (defScope (top 11)) := ⟨rfl, rfl, rfl, by decide +kernel, rfl, by decide +kernel, by decide +kernel⟩
theorem ok_m_middle (B : Fr mg)  {at_ : PySem.Str × Option PySem.Str} {fd : FuncData} (F : FunP K at_ "middle" "middle" (top 11) fd) (hm : mg "middle" = some (.ref (He.fAd K at_))) : Fg P w K mg base "middle" ["tree"] 1 m_middle :=
  Fg.of hm F.kp (F.bindsN fun _ _ _ _ _ _ us hl => match us, hl with | [_], _ => rfl) rfl (fn_body (k := 0) F sc_m_middle rfl rfl (fun cdv A outer s H E X hX hr tk hp => by
    subst hX
    have sc := sc_m_middle
    exact (jb_one (js_ret (je_op jo_add (je_ix hr (je_var 0) je_int (fun _ _ => rfl)) (je_op jo_shr (je_ix hr (je_var 0) je_int (fun _ _ => rfl)) je_int))))))
theorem sc_m_put_in : FnScope ["kind", "tree", "at", "deed"] ["kind", "tree", "at", "deed"] (defScope (top 12)) := ⟨rfl, rfl, rfl, by decide +kernel, rfl, by decide +kernel, by decide +kernel⟩
theorem ok_m_put_in (B : Fr mg) (x_Taken : Xg K mg "Taken") (h_m_holds : Fg P w K mg base "holds" ["stretch", "number"] 1 m_holds) (h_m_knot : Fg P w K mg base "knot" ["kind", "left", "right"] 2 m_knot) (h_m_leaf : Fg P w K mg base "leaf" ["kind", "at", "deed"] 2 m_leaf) (h_m_middle : Fg P w K mg base "middle" ["tree"] 1 m_middle) {at_ : PySem.Str × Option PySem.Str} {fd : FuncData} (F : FunP K at_ "put_in" "put_in" (top 12) fd) (hm : mg "put_in" = some (.ref (He.fAd K at_))) : ∀ n : Nat, Fg P w K mg base "put_in" ["kind", "tree", "at", "deed"] (2 + n) (m_put_in n)
  | 0 => ⟨⟨_, fd, hm, F.kp, F.bindsN fun _ _ _ _ _ _ us hl => match us, hl with | [_, _, _, _], _ => rfl, ⟨fun vs H Q E h => (by obtain ⟨_, _, _, h1, _⟩ := h; exact h1), fun A outer s H args us vs Q E _ _ _ _ h => (by obtain ⟨_, _, _, _, _, _, h1⟩ := h; exact h1.elim)⟩⟩, fun _ _ h => absurd rfl h⟩
  | n + 1 => by
    have rec_ := ok_m_put_in B x_Taken h_m_holds h_m_knot h_m_leaf h_m_middle F hm n
    exact Fg.of hm F.kp (F.bindsN fun _ _ _ _ _ _ us hl => match us, hl with | [_, _, _, _], _ => rfl) rfl (fn_body (k := 2 + n) F sc_m_put_in rfl rfl (fun cdv A outer s H E X hX hr tk hp => by
    subst hX
    have sc := sc_m_put_in
    exact (jb_cons (js_if (jt_cmp jo_isN (je_var 1) je_non (nomark _)) (jb_one (js_ret (je_call h_m_leaf (hr.mono (by first | decide | omega)) tk (ja_cons (je_var 0) (ja_cons (je_var 2) (ja_cons (je_var 3) ja_nil)))))) jb_nil) (jb_cons (js_if (jt_not (jt_truth (je_call h_m_holds (hr.mono (by first | decide | omega)) tk (ja_cons (je_slice (je_var 1) jp_none (jp_some je_int)) (ja_cons (je_var 2) ja_nil))))) (jb_cons (js_if (jt_cmp jo_lt (je_var 2) (je_ix hr (je_var 1) je_int (fun _ _ => rfl)) (nomark _)) (jb_one (js_ret (je_call h_m_knot (hr.mono (by first | decide | omega)) tk (ja_cons (je_var 0) (ja_cons (je_call h_m_leaf (hr.mono (by first | decide | omega)) tk (ja_cons (je_var 0) (ja_cons (je_var 2) (ja_cons (je_var 3) ja_nil)))) (ja_cons (je_var 1) ja_nil)))))) jb_nil) (jb_one (js_ret (je_call h_m_knot (hr.mono (by first | decide | omega)) tk (ja_cons (je_var 0) (ja_cons (je_var 1) (ja_cons (je_call h_m_leaf (hr.mono (by first | decide | omega)) tk (ja_cons (je_var 0) (ja_cons (je_var 2) (ja_cons (je_var 3) ja_nil)))) ja_nil))))))) jb_nil) (jb_cons (js_if (jt_cmp (jo_eq hr) (je_ix hr (je_var 1) je_int (fun _ _ => rfl)) je_int (nomark _)) (jb_one (js_raise x_Taken tk rfl)) jb_nil) (jb_cons (js_if (jt_cmp jo_lt (je_var 2) (je_call h_m_middle (hr.mono (by first | decide | omega)) tk (ja_cons (je_var 1) ja_nil)) (nomark _)) (jb_one (js_ret (je_call h_m_knot (hr.mono (by first | decide | omega)) tk (ja_cons (je_var 0) (ja_cons (je_call rec_ (hr.mono (by omega)) tk (ja_cons (je_var 0) (ja_cons (je_ix hr (je_var 1) je_int (fun _ _ => rfl)) (ja_cons (je_var 2) (ja_cons (je_var 3) ja_nil))))) (ja_cons (je_ix hr (je_var 1) je_int (fun _ _ => rfl)) ja_nil)))))) jb_nil) (jb_one (js_ret (je_call h_m_knot (hr.mono (by first | decide | omega)) tk (ja_cons (je_var 0) (ja_cons (je_ix hr (je_var 1) je_int (fun _ _ => rfl)) (ja_cons (je_call rec_ (hr.mono (by omega)) tk (ja_cons (je_var 0) (ja_cons (je_ix hr (je_var 1) je_int (fun _ _ => rfl)) (ja_cons (je_var 2) (ja_cons (je_var 3) ja_nil))))) ja_nil))))))))))))
theorem sc_m_law_grown : FnScope ["_law_known", "_law_tree", "_law_kind", "_law_time_here"] ["_law_known"] (defScope (top 22)) := ⟨rfl, rfl, rfl, by decide +kernel, rfl, by decide +kernel, by decide +kernel⟩
theorem ok_m_law_grown (B : Fr mg) (h_m_put_in : Fg P w K mg base "put_in" ["kind", "tree", "at", "deed"] 42 (m_put_in 40)) (k_Kind : Kg K mg "Kind") {at_ : PySem.Str × Option PySem.Str} {fd : FuncData} (F : FunP K at_ "_law_grown" "_law_grown" (top 22) fd) (hm : mg "_law_grown" = some (.ref (He.fAd K at_))) : Fg P w K mg base "_law_grown" ["_law_known"] 43 m_law_grown :=
  Fg.of hm F.kp (F.bindsN fun _ _ _ _ _ _ us hl => match us, hl with | [_], _ => rfl) rfl (fn_body (k := 42) F sc_m_law_grown rfl rfl (fun cdv A outer s H E X hX hr tk hp => by
    subst hX
    have sc := sc_m_law_grown
    exact (jb_cons (js_set (i := 1) sc.nd je_non) (jb_cons (js_set (i := 2) sc.nd (je_make0 k_Kind)) (jb_cons (js_for hp rfl (ji_any (je_callB (jc_sorted rfl) rfl B.f_sorted bt_sorted (ja_cons (je_var 0) ja_nil))) (jg_name (i := 3) sc.nd) (jb_one (js_set (i := 1) sc.nd (je_call h_m_put_in (hr.mono (by first | decide | omega)) tk (ja_cons (je_var 2) (ja_cons (je_var 1) (ja_cons (je_var 3) (ja_cons (je_ix hr (je_var 0) (je_var 3) (fun _ _ => rfl)) ja_nil)))))))) (jb_one (js_ret (je_var 1))))))))
theorem sc_m_law_alike : FnScope ["_law_found", "_law_due_here", "_law_k", "_law_part"] ["_law_found", "_law_due_here"] (defScope (top 25)) := ⟨rfl, rfl, rfl, by decide +kernel, rfl, by decide +kernel, by decide +kernel⟩
theorem ok_m_law_alike (B : Fr mg)  {at_ : PySem.Str × Option PySem.Str} {fd : FuncData} (F : FunP K at_ "_law_alike" "_law_alike" (top 25) fd) (hm : mg "_law_alike" = some (.ref (He.fAd K at_))) : Fg P w K mg base "_law_alike" ["_law_found", "_law_due_here"] 1 m_law_alike :=
  Fg.of hm F.kp (F.bindsN fun _ _ _ _ _ _ us hl => match us, hl with | [_, _], _ => rfl) rfl (fn_body (k := 0) F sc_m_law_alike rfl rfl (fun cdv A outer s H E X hX hr tk hp => by
    subst hX
    have sc := sc_m_law_alike
    exact (jb_cons (js_if (JW.jt (jw_or (jt_not (jt_truth (je_isI .list (by decide) (je_var 0) rfl rfl B.f_isinstance rfl B.f_list bt_list))) (jw_or1 (jt_cmp (jo_ne hr) (je_callB jc_len rfl B.f_len bt_len (ja_cons (je_var 0) ja_nil)) (je_callB jc_len rfl B.f_len bt_len (ja_cons (je_var 1) ja_nil)) (nomark _))))) (jb_one (js_ret je_bl)) jb_nil) (jb_cons (js_for hp rfl (ji_rng1 rfl B.f_range (je_callB jc_len rfl B.f_len bt_len (ja_cons (je_var 1) ja_nil))) (jg_name (i := 2) sc.nd) (jb_cons (js_set (i := 3) sc.nd (je_ix hr (je_var 0) (je_var 2) (fun _ _ => rfl))) (jb_cons (js_if (JW.jt (jw_or (jt_not (jt_truth (je_isI .tuple (by decide) (je_var 3) rfl rfl B.f_isinstance rfl B.f_tuple bt_tuple))) (jw_or (jt_cmp (jo_ne hr) (je_callB jc_len rfl B.f_len bt_len (ja_cons (je_var 3) ja_nil)) je_int (nomark _)) (jw_or (jt_truth (je_isI .bool (by decide) (je_ix hr (je_var 3) je_int (fun _ _ => rfl)) rfl rfl B.f_isinstance rfl B.f_bool bt_bool)) (jw_or1 (jt_truth (je_isI .bool (by decide) (je_ix hr (je_var 3) je_int (fun _ _ => rfl)) rfl rfl B.f_isinstance rfl B.f_bool bt_bool))))))) (jb_one (js_ret je_bl)) jb_nil) (jb_one (js_if (jt_cmp (jo_ne hr) (je_var 3) (je_ix hr (je_var 1) (je_var 2) (fun _ _ => rfl)) (nomark _)) (jb_one (js_ret je_bl)) jb_nil))))) (jb_one (js_ret je_bl))))))
theorem sc_m_within : FnScope ["one", "other"] ["one", "other"] (defScope (top 3)) := ⟨rfl, rfl, rfl, by decide +kernel, rfl, by decide +kernel, by decide +kernel⟩
theorem ok_m_within (B : Fr mg)  {at_ : PySem.Str × Option PySem.Str} {fd : FuncData} (F : FunP K at_ "within" "within" (top 3) fd) (hm : mg "within" = some (.ref (He.fAd K at_))) : Fg P w K mg base "within" ["one", "other"] 1 m_within :=
  Fg.of hm F.kp (F.bindsN fun _ _ _ _ _ _ us hl => match us, hl with | [_, _], _ => rfl) rfl (fn_body (k := 0) F sc_m_within rfl rfl (fun cdv A outer s H E X hX hr tk hp => by
    subst hX
    have sc := sc_m_within
    exact (jb_one (js_ret (je_and (je_cmp jo_le (je_ix hr (je_var 1) je_int (fun _ _ => rfl)) (je_ix hr (je_var 0) je_int (fun _ _ => rfl)) (nomark _)) (je_one (je_cmp jo_le (je_op jo_add (je_ix hr (je_var 0) je_int (fun _ _ => rfl)) (je_ix hr (je_var 0) je_int (fun _ _ => rfl))) (je_op jo_add (je_ix hr (je_var 1) je_int (fun _ _ => rfl)) (je_ix hr (je_var 1) je_int (fun _ _ => rfl))) (nomark _))))))))
theorem sc_m_inside : FnScope ["tree", "stretch"] ["tree", "stretch"] (defScope (top 14)) := ⟨rfl, rfl, rfl, by decide +kernel, rfl, by decide +kernel, by decide +kernel⟩
theorem ok_m_inside (B : Fr mg) (h_m_middle : Fg P w K mg base "middle" ["tree"] 1 m_middle) (h_m_within : Fg P w K mg base "within" ["one", "other"] 1 m_within) {at_ : PySem.Str × Option PySem.Str} {fd : FuncData} (F : FunP K at_ "inside" "inside" (top 14) fd) (hm : mg "inside" = some (.ref (He.fAd K at_))) : Fg P w K mg base "inside" ["tree", "stretch"] 2 m_inside :=
  Fg.of hm F.kp (F.bindsN fun _ _ _ _ _ _ us hl => match us, hl with | [_, _], _ => rfl) rfl (fn_body (k := 1) F sc_m_inside rfl rfl (fun cdv A outer s H E X hX hr tk hp => by
    subst hX
    have sc := sc_m_inside
    exact (jb_cons (js_while (fuel := lots) hp (JW.jt (jw_and (jt_cmp jo_notN (je_var 0) je_non (nomark _)) (jw_and1 (jt_not (jt_truth (je_call h_m_within (hr.mono (by first | decide | omega)) tk (ja_cons (je_slice (je_var 0) jp_none (jp_some je_int)) (ja_cons (je_var 1) ja_nil)))))))) (jb_cons (js_if (jt_not (jt_truth (je_call h_m_within (hr.mono (by first | decide | omega)) tk (ja_cons (je_var 1) (ja_cons (je_slice (je_var 0) jp_none (jp_some je_int)) ja_nil))))) (jb_one (js_ret je_non)) jb_nil) (jb_one (js_if (jt_cmp jo_lt (je_ix hr (je_var 1) je_int (fun _ _ => rfl)) (je_call h_m_middle (hr.mono (by first | decide | omega)) tk (ja_cons (je_var 0) ja_nil)) (nomark _)) (jb_one (js_set (i := 0) sc.nd (je_ix hr (je_var 0) je_int (fun _ _ => rfl)))) (jb_one (js_set (i := 0) sc.nd (je_ix hr (je_var 0) je_int (fun _ _ => rfl)))))))) (jb_one (js_ret (je_var 0))))))
theorem sc_m_touched : FnScope ["old", "new", "row", "waiting", "part"] ["old", "new"] (defScope (top 15)) := ⟨rfl, rfl, rfl, by decide +kernel, rfl, by decide +kernel, by decide +kernel⟩
theorem ok_m_touched (B : Fr mg) (h_m_inside : Fg P w K mg base "inside" ["tree", "stretch"] 2 m_inside) {at_ : PySem.Str × Option PySem.Str} {fd : FuncData} (F : FunP K at_ "touched" "touched" (top 15) fd) (hm : mg "touched" = some (.ref (He.fAd K at_))) : Fg P w K mg base "touched" ["old", "new"] 3 m_touched :=
  Fg.of hm F.kp (F.bindsN fun _ _ _ _ _ _ us hl => match us, hl with | [_, _], _ => rfl) rfl (fn_body (k := 2) F sc_m_touched rfl rfl (fun cdv A outer s H E X hX hr tk hp => by
    subst hX
    have sc := sc_m_touched
    exact (jb_cons (js_set (i := 2) sc.nd (je_lst ja_nil)) (jb_cons (js_set (i := 3) sc.nd (je_lst (ja_cons (je_var 1) ja_nil))) (jb_cons (js_while (fuel := lots) hp (jt_truth (je_var 3)) (jb_cons (js_set (i := 4) sc.nd (je_lm0 PySem.F.slot_list_pop PySem.F.type_list_pop jm_pop (je_var 3))) (jb_cons (js_if (JW.jt (jw_or (jt_cmp jo_isN (je_var 4) je_non (nomark _)) (jw_or1 (jt_cmp (jo_eq hr) (je_call h_m_inside (hr.mono (by first | decide | omega)) tk (ja_cons (je_var 0) (ja_cons (je_slice (je_var 4) jp_none (jp_some je_int)) ja_nil))) (je_var 4) (nomark _))))) (jb_one js_cont) jb_nil) (jb_cons (js_expr (je_lm PySem.F.slot_list_append PySem.F.type_list_append jm_append (je_var 2) (ja_cons (je_slice (je_var 4) jp_none (jp_some je_int)) ja_nil))) (jb_one (js_if (jt_cmp jo_gt (je_ix hr (je_var 4) je_int (fun _ _ => rfl)) je_int (nomark _)) (jb_cons (js_expr (je_lm PySem.F.slot_list_append PySem.F.type_list_append jm_append (je_var 3) (ja_cons (je_ix hr (je_var 4) je_int (fun _ _ => rfl)) ja_nil))) (jb_one (js_expr (je_lm PySem.F.slot_list_append PySem.F.type_list_append jm_append (je_var 3) (ja_cons (je_ix hr (je_var 4) je_int (fun _ _ => rfl)) ja_nil))))) jb_nil)))))) (jb_one (js_ret (je_var 2))))))))
theorem sc_m_law_knots : FnScope ["_law_tree", "_law_row", "_law_waiting", "_law_part"] ["_law_tree"] (defScope (top 23)) := ⟨rfl, rfl, rfl, by decide +kernel, rfl, by decide +kernel, by decide +kernel⟩
theorem ok_m_law_knots (B : Fr mg)  {at_ : PySem.Str × Option PySem.Str} {fd : FuncData} (F : FunP K at_ "_law_knots" "_law_knots" (top 23) fd) (hm : mg "_law_knots" = some (.ref (He.fAd K at_))) : Fg P w K mg base "_law_knots" ["_law_tree"] 1 m_law_knots :=
  Fg.of hm F.kp (F.bindsN fun _ _ _ _ _ _ us hl => match us, hl with | [_], _ => rfl) rfl (fn_body (k := 0) F sc_m_law_knots rfl rfl (fun cdv A outer s H E X hX hr tk hp => by
    subst hX
    have sc := sc_m_law_knots
    exact (jb_cons (js_set (i := 1) sc.nd (je_lst ja_nil)) (jb_cons (js_set (i := 2) sc.nd (je_lst (ja_cons (je_var 0) ja_nil))) (jb_cons (js_while (fuel := lots) hp (jt_cmp jo_gt (je_callB jc_len rfl B.f_len bt_len (ja_cons (je_var 2) ja_nil)) je_int (nomark _)) (jb_cons (js_set (i := 3) sc.nd (je_lm0 PySem.F.slot_list_pop PySem.F.type_list_pop jm_pop (je_var 2))) (jb_one (js_if (jt_cmp jo_notN (je_var 3) je_non (nomark _)) (jb_cons (js_expr (je_lm PySem.F.slot_list_append PySem.F.type_list_append jm_append (je_var 1) (ja_cons (je_var 3) ja_nil))) (jb_one (js_if (jt_cmp (jo_eq hr) (je_callB jc_len rfl B.f_len bt_len (ja_cons (je_var 3) ja_nil)) je_int (nomark _)) (jb_cons (js_expr (je_lm PySem.F.slot_list_append PySem.F.type_list_append jm_append (je_var 2) (ja_cons (je_ix hr (je_var 3) je_int (fun _ _ => rfl)) ja_nil))) (jb_one (js_expr (je_lm PySem.F.slot_list_append PySem.F.type_list_append jm_append (je_var 2) (ja_cons (je_ix hr (je_var 3) je_int (fun _ _ => rfl)) ja_nil))))) jb_nil))) jb_nil)))) (jb_one (js_ret (je_var 1))))))))
theorem sc_m_law_due : FnScope ["_law_old", "_law_new", "_law_known", "_law_part"] ["_law_old", "_law_new"] (defScope (top 24)) := ⟨rfl, rfl, rfl, by decide +kernel, rfl, by decide +kernel, by decide +kernel⟩
theorem ok_m_law_due (B : Fr mg) (h_m_law_knots : Fg P w K mg base "_law_knots" ["_law_tree"] 1 m_law_knots) {at_ : PySem.Str × Option PySem.Str} {fd : FuncData} (F : FunP K at_ "_law_due" "_law_due" (top 24) fd) (hm : mg "_law_due" = some (.ref (He.fAd K at_))) : Fg P w K mg base "_law_due" ["_law_old", "_law_new"] 2 m_law_due :=
  Fg.of hm F.kp (F.bindsN fun _ _ _ _ _ _ us hl => match us, hl with | [_, _], _ => rfl) rfl (fn_body (k := 1) F sc_m_law_due rfl rfl (fun cdv A outer s H E X hX hr tk hp => by
    subst hX
    have sc := sc_m_law_due
    exact (jb_cons (js_set (i := 2) sc.nd je_dt0) (jb_cons (js_for hp rfl (ji_any (je_call h_m_law_knots (hr.mono (by first | decide | omega)) tk (ja_cons (je_var 0) ja_nil))) (jg_name (i := 3) sc.nd) (jb_one (js_putT hr (je_var 3) (je_var 2) (ja_cons (je_ix hr (je_var 3) je_int (fun _ _ => rfl)) (ja_cons (je_ix hr (je_var 3) je_int (fun _ _ => rfl)) ja_nil))))) (jb_one (js_ret (je_lc (own := [("_law_part", 3)]) (t := (.one 3)) rfl sc.nd (ji_any (je_call h_m_law_knots (hr.mono (by first | decide | omega)) tk (ja_cons (je_var 1) ja_nil))) (blkOk_by (N := ["_law_old", "_law_new", "_law_known", "_law_part"]) (sc := defScope (top 24)) (by decide +kernel)) (by decide) (fun _ _ _ _ _ => jct_one sc.nd) (fun _ _ _ _ _ => jts_one (jt_cmp (jo_ne hr) (je_getT hr (je_var 2) (ja_cons (je_ix hr (je_var 3) je_int (fun _ _ => rfl)) (ja_cons (je_ix hr (je_var 3) je_int (fun _ _ => rfl)) ja_nil))) (je_var 3) (nomark _))) (fun _ _ _ _ _ => (je_tup (ja_cons (je_ix hr (je_var 3) je_int (fun _ _ => rfl)) (ja_cons (je_ix hr (je_var 3) je_int (fun _ _ => rfl)) ja_nil)))))))))))
theorem sc_m_law : FnScope ["_law_script", "_law_two_here", "_law_old", "_law_new"] ["_law_script"] (defScope (top 27)) := ⟨rfl, rfl, rfl, by decide +kernel, rfl, by decide +kernel, by decide +kernel⟩
theorem ok_m_law (B : Fr mg) (h_m_law_alike : Fg P w K mg base "_law_alike" ["_law_found", "_law_due_here"] 1 m_law_alike) (h_m_law_due : Fg P w K mg base "_law_due" ["_law_old", "_law_new"] 2 m_law_due) (h_m_law_grown : Fg P w K mg base "_law_grown" ["_law_known"] 43 m_law_grown) (h_m_law_two : Fg P w K mg base "_law_two" ["_law_script"] 2 m_law_two) (h_m_touched : Fg P w K mg base "touched" ["old", "new"] 3 m_touched) {at_ : PySem.Str × Option PySem.Str} {fd : FuncData} (F : FunP K at_ "law" "law" (top 27) fd) : FnOk P w K mg base (L2.CX P w) 44 (He.fAd K at_) fd ["_law_script"] (spG K 1 m_law) :=
  fn_body (k := 43) F sc_m_law rfl rfl (fun cdv A outer s H E X hX hr tk hp => by
    subst hX
    have sc := sc_m_law
    exact (jb_cons (js_set (i := 1) sc.nd (je_call h_m_law_two (hr.mono (by first | decide | omega)) tk (ja_cons (je_var 0) ja_nil))) (jb_cons (js_set (i := 2) sc.nd (je_call h_m_law_grown (hr.mono (by first | decide | omega)) tk (ja_cons (je_ix hr (je_var 1) je_int (fun _ _ => rfl)) ja_nil))) (jb_cons (js_set (i := 3) sc.nd (je_call h_m_law_grown (hr.mono (by first | decide | omega)) tk (ja_cons (je_ix hr (je_var 1) je_int (fun _ _ => rfl)) ja_nil))) (jb_cons (js_if (JW.jt (jw_or (jt_not (jt_truth (je_call h_m_law_alike (hr.mono (by first | decide | omega)) tk (ja_cons (je_call h_m_touched (hr.mono (by first | decide | omega)) tk (ja_cons (je_var 2) (ja_cons (je_var 3) ja_nil))) (ja_cons (je_call h_m_law_due (hr.mono (by first | decide | omega)) tk (ja_cons (je_var 2) (ja_cons (je_var 3) ja_nil))) ja_nil))))) (jw_or1 (jt_not (jt_truth (je_call h_m_law_alike (hr.mono (by first | decide | omega)) tk (ja_cons (je_call h_m_touched (hr.mono (by first | decide | omega)) tk (ja_cons (je_var 3) (ja_cons (je_var 2) ja_nil))) (ja_cons (je_call h_m_law_due (hr.mono (by first | decide | omega)) tk (ja_cons (je_var 3) (ja_cons (je_var 2) ja_nil))) ja_nil)))))))) (jb_one (js_ret je_bl)) jb_nil) (jb_cons (js_if (JW.jt (jw_or (jt_cmp (jo_ne hr) (je_call h_m_touched (hr.mono (by first | decide | omega)) tk (ja_cons (je_var 2) (ja_cons (je_var 2) ja_nil))) (je_lst ja_nil) (nomark _)) (jw_or1 (jt_cmp (jo_ne hr) (je_call h_m_touched (hr.mono (by first | decide | omega)) tk (ja_cons (je_var 3) (ja_cons je_non ja_nil))) (je_lst ja_nil) (nomark _))))) (jb_one (js_ret je_bl)) jb_nil) (jb_one (js_ret (je_call h_m_law_alike (hr.mono (by first | decide | omega)) tk (ja_cons (je_call h_m_touched (hr.mono (by first | decide | omega)) tk (ja_cons je_non (ja_cons (je_var 3) ja_nil))) (ja_cons (je_call h_m_law_due (hr.mono (by first | decide | omega)) tk (ja_cons je_non (ja_cons (je_var 3) ja_nil))) ja_nil)))))))))))
end
theorem facts {P : Program} {w : World} {K : PySem.W.Frag} {h : Heap} {mg : PySem.Str → Option Value} {f : Addr} (KX : K.In h) (G : h.Ns mainGlobals mg) (hfa : mg "law" = some (.ref f)) (c : He.SaysD fal fnl K) (ce : (efl.all fun z => z.ok K) = true)
    (pure_ : ∀ ns : List Int, ns.length ≤ 63 → ∃ s', m_law [.ref 0] [.scr (ns.map D.int)] = .ok (.bl true) s') :
    ∃ (K : PySem.W.Frag) (fd : FuncData) (sp : Sp), K.In h ∧ (∀ (s : Shared) (u : Value), BindsTo s fd ⟨[u], []⟩ [("_law_script", u)]) ∧
        (∀ (H : Hp) (a : Addr) (ns : List Int), ns.length ≤ 63 → Only H → SqL K H a (ns.map V.int) → sp [.ref a] H (fun v _ => v = .bl true) fun _ _ _ => False) ∧
        ∀ base : Heap, K.In base → base.Ns mainGlobals mg → FnOk P w K mg base CX0 44 f fd ["_law_script"] sp := by
  obtain ⟨fd0, F0⟩ := c.def_ 0 (d := dd_0) rfl
  obtain ⟨fd1, F1⟩ := c.def_ 1 (d := dd_1) rfl
  obtain ⟨fd2, F2⟩ := c.def_ 2 (d := dd_2) rfl
  obtain ⟨fd3, F3⟩ := c.def_ 3 (d := dd_3) rfl
  obtain ⟨fd4, F4⟩ := c.def_ 4 (d := dd_4) rfl
  obtain ⟨fd5, F5⟩ := c.def_ 5 (d := dd_5) rfl
  obtain ⟨fd6, F6⟩ := c.def_ 6 (d := dd_6) rfl
  obtain ⟨fd7, F7⟩ := c.def_ 7 (d := dd_7) rfl
  obtain ⟨fd8, F8⟩ := c.def_ 8 (d := dd_8) rfl
  obtain ⟨fd9, F9⟩ := c.def_ 9 (d := dd_9) rfl
  obtain ⟨fd10, F10⟩ := c.def_ 10 (d := dd_10) rfl
  obtain ⟨fd11, F11⟩ := c.def_ 11 (d := dd_11) rfl
  obtain ⟨fd12, F12⟩ := c.def_ 12 (d := dd_12) rfl
  obtain ⟨fd13, F13⟩ := c.def_ 13 (d := dd_13) rfl
  obtain ⟨fd14, F14⟩ := c.def_ 14 (d := dd_14) rfl
  obtain ⟨fd15, F15⟩ := c.def_ 15 (d := dd_15) rfl
  obtain ⟨fd16, F16⟩ := c.def_ 16 (d := dd_16) rfl
  obtain ⟨fd17, F17⟩ := c.def_ 17 (d := dd_17) rfl
  obtain ⟨fd18, F18⟩ := c.def_ 18 (d := dd_18) rfl
  obtain ⟨fd19, F19⟩ := c.def_ 19 (d := dd_19) rfl
  have B : Fr mg := ⟨He.free_ok KX G (c.fact 0 (f := .free "bool") rfl), He.free_ok KX G (c.fact 1 (f := .free "isinstance") rfl), He.free_ok KX G (c.fact 2 (f := .free "len") rfl), He.free_ok KX G (c.fact 3 (f := .free "list") rfl), He.free_ok KX G (c.fact 4 (f := .free "range") rfl), He.free_ok KX G (c.fact 5 (f := .free "sorted") rfl), He.free_ok KX G (c.fact 6 (f := .free "tuple") rfl)⟩
  have x_Taken : Xg K mg "Taken" := ⟨He.glo_ok KX G (c.fact 25 (f := .glo "Taken") rfl), He.exc_ok (c.fact 26 (f := .exc "Taken") rfl)⟩
  have k_Kind : Kg K mg "Kind" := kg_of (He.glo_ok KX G (c.fact 30 (f := .glo "Kind") rfl)) (List.all_eq_true.mp ce (.oini "Kind") (List.mem_of_getElem? (i := 0) rfl))
  have gl := He.glo_ok KX G (c.fact 24 (f := .glo "law") rfl)
  refine PD.law_end (st := top 27) KX F17 hfa gl (fun _ _ _ _ _ _ us hl => match us, hl with | [_], _ => rfl) (fun base _ _ => ?_) pure_
  have h_m_law_cell_at := ok_m_law_cell_at (P := P) (w := w) (base := base) B  F0 (He.glo_ok KX G (c.fact 7 (f := .glo "_law_cell_at") rfl))
  have h_m_law_many := ok_m_law_many (P := P) (w := w) (base := base) B  F1 (He.glo_ok KX G (c.fact 8 (f := .glo "_law_many") rfl))
  have h_m_law_time := ok_m_law_time (P := P) (w := w) (base := base) B  F2 (He.glo_ok KX G (c.fact 9 (f := .glo "_law_time") rfl))
  have h_m_law_two := ok_m_law_two (P := P) (w := w) (base := base) B h_m_law_cell_at h_m_law_many h_m_law_time F3 (He.glo_ok KX G (c.fact 10 (f := .glo "_law_two") rfl))
  have h_m_least := ok_m_least (P := P) (w := w) (base := base) B  F4 (He.glo_ok KX G (c.fact 11 (f := .glo "least") rfl))
  have h_m_joined : AllM P w K mg base "joined" ["self", "one", "other"] 1 tab_joined := ⟨⟨He.cls_ok (c.fact 27 (f := .cls "Kind") rfl), ⟨_, fd18, He.meth_ok (c.fact 28 (f := .meth "Kind" "joined") rfl), bn_m_Kind_joined F18, (ok_m_Kind_joined B  F18).mono (by decide)⟩, len_m_Kind_joined⟩, trivial⟩
  have h_m_knot := ok_m_knot (P := P) (w := w) (base := base) B h_m_least h_m_joined F5 (He.glo_ok KX G (c.fact 12 (f := .glo "knot") rfl))
  have h_m_lone : AllM P w K mg base "lone" ["self", "at", "deed"] 1 tab_lone := ⟨⟨He.cls_ok (c.fact 27 (f := .cls "Kind") rfl), ⟨_, fd19, He.meth_ok (c.fact 29 (f := .meth "Kind" "lone") rfl), bn_m_Kind_lone F19, (ok_m_Kind_lone B  F19).mono (by decide)⟩, len_m_Kind_lone⟩, trivial⟩
  have h_m_leaf := ok_m_leaf (P := P) (w := w) (base := base) B h_m_lone F6 (He.glo_ok KX G (c.fact 13 (f := .glo "leaf") rfl))
  have h_m_holds := ok_m_holds (P := P) (w := w) (base := base) B  F7 (He.glo_ok KX G (c.fact 14 (f := .glo "holds") rfl))
  have h_m_middle := ok_m_middle (P := P) (w := w) (base := base) B  F8 (He.glo_ok KX G (c.fact 15 (f := .glo "middle") rfl))
  have h_m_put_in := ok_m_put_in (P := P) (w := w) (base := base) B x_Taken h_m_holds h_m_knot h_m_leaf h_m_middle F9 (He.glo_ok KX G (c.fact 16 (f := .glo "put_in") rfl)) 40
  have h_m_law_grown := ok_m_law_grown (P := P) (w := w) (base := base) B h_m_put_in k_Kind F10 (He.glo_ok KX G (c.fact 17 (f := .glo "_law_grown") rfl))
  have h_m_law_alike := ok_m_law_alike (P := P) (w := w) (base := base) B  F11 (He.glo_ok KX G (c.fact 18 (f := .glo "_law_alike") rfl))
  have h_m_within := ok_m_within (P := P) (w := w) (base := base) B  F12 (He.glo_ok KX G (c.fact 19 (f := .glo "within") rfl))
  have h_m_inside := ok_m_inside (P := P) (w := w) (base := base) B h_m_middle h_m_within F13 (He.glo_ok KX G (c.fact 20 (f := .glo "inside") rfl))
  have h_m_touched := ok_m_touched (P := P) (w := w) (base := base) B h_m_inside F14 (He.glo_ok KX G (c.fact 21 (f := .glo "touched") rfl))
  have h_m_law_knots := ok_m_law_knots (P := P) (w := w) (base := base) B  F15 (He.glo_ok KX G (c.fact 22 (f := .glo "_law_knots") rfl))
  have h_m_law_due := ok_m_law_due (P := P) (w := w) (base := base) B h_m_law_knots F16 (He.glo_ok KX G (c.fact 23 (f := .glo "_law_due") rfl))
  exact ok_m_law B h_m_law_alike h_m_law_due h_m_law_grown h_m_law_two h_m_touched F17
end LW

open PySem PySem.W PySem.Calls PyProof.Rows
theorem PySem.Challenge.cw_pastdesk_k18_touched_holds : PySem.Challenge.rw_pastdesk_k18_touched.Holds := by
  w_on; o_law
  refine HandSHeadRun.head_any (r := OpenLaw.row PySem.Challenge.rw_pastdesk_k18_touched) (q := view (OpenLaw.row PySem.Challenge.rw_pastdesk_k18_touched).prog [27]) (H := HW.hk) (ob := HW.ob) (M := 60000) (loose := HW.loose) (d := HandSHeadRun.topDef (OpenLaw.row PySem.Challenge.rw_pastdesk_k18_touched).prog 27) (kwd := []) HW.ob_eq
    (by kernel_rfl) (fun s => by kernel_rfl) HW.run_ (by kernel_rfl) (by kernel_rfl) (by kernel_rfl) (by rfl) (by first | assumption | decide +kernel) (by decide +kernel) ⟨rfl, rfl, rfl, rfl, rfl, by decide +kernel⟩ ?hw ?hc
  case hw => w_witness2
  case hc =>
    refine L2.walk_ofE (l := PySem.Challenge.rw_pastdesk_k18_touched) (n := 63) (k := 44) (x := "_law_script") (CX := L2.CX0) rfl (by decide) (by kernel_rfl) ⟨rfl, by decide, by decide⟩ ?F (fun _ _ _ _ z => z)
    intro w mg fa h Y G hmg0
    obtain ⟨K, KX, c, ce⟩ := Y
    have hmg : mg ("law" : PySem.Str) = some (.ref fa) := by
      have e : (HandSHeadRun.topDef (OpenLaw.row PySem.Challenge.rw_pastdesk_k18_touched).prog 27).name = ("law" : PySem.Str) := by kernel_rfl
      rw [← e]
      exact hmg0
    exact LW.facts (P := (PySem.Challenge.rw_pastdesk_k18_touched).prog) (w := w) KX G hmg c ce LW.law_true
