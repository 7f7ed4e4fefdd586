import PyProof.Rows.All
import Wide.All
import OpenK.AllK
import Wide.FinOn
import HandS.ForMost
import HandS.Exc
import HandS.TryOnly
import HandS.ExcOwn
import HandS.WordsExc
import HandS.IsInst
import HandS.Defaults
import HandS.Wide
import HandS.WideBits
import HandS.TupAny
import HandS.Flow
import HandS.HeadHook2
import HandS.Nested
import HandS.TupLe
import HandS.New0
import HandS.HeadEnd
import HandS.Head2
import HandS.ExcField
import PySem.Challenge.RW_pastdesk_k02_undone_told
import HandS.SortInts
import HandS.SortRule
import HandS.More
import HandS.Conv
import HandS.Rev
import KE.DataMinMax
import KE.DataFind
import KE.SortData
import KE.SortKeyHeap
import HandS.SortKw
import HandS.EndTab
import HandS.TryElse
import HandS.ExcIs
import HandS.Zip
import HandS.RaiseMore
import HandS.Replace
import KE.KExcIs
import HandS.HotCalls
import HandS.TryMany
import HandS.TupSets
import HandS.ExcInit
import HandS.DictEq
import KE.KSortTupAny
import HandS.Set
import HandS.Strs
import HandS.SetFor
import PyProof.Rows.SortShellAny
import PyProof.StrLawsTight
import PyProof.FitsInt
import KE.IntTextLaws
import PyProof.StrLawsIn
set_option Elab.async false
set_option linter.all false
set_option autoImplicit false
set_option maxRecDepth 100000
set_option maxHeartbeats 8000000
/-! Pd0: data D, stores, results; how they lie in the abstract heap; expressions, statements by functions over them. -/
namespace PD
open PySem L2

/-! ### data -/
inductive D where
  | non | bl (b : Bool) | int (i : Int) | str (x : Str) | tup (l : List D) | ref (n : Nat) | hot (a : Addr) (dn : Option (Addr × Nat))
-- hot: an exception that is handled, at its address; where its fields stand (their dict's address, its place in the store)
/-- what stands at a reference: a list; a list that is read alone (the script); a dict by ints and texts; one that is walked; an instance; the table of code objects of the def x; the fields of an exception; a dict by tuples; an exception kept as a value, its class, the place of its fields -/
inductive O where
  | lst (l : List D) | scr (l : List D) | dk (kvs : List (Key × D)) | lk (kvs : List (Key × D)) | ins (c : Str) (fs : List (Str × D)) | tab (x : Str) | xd (fs : List (Str × D)) | dt (kvs : List (List Key × D)) | exv (c : Str) (m : Nat)
abbrev Sto := List O
abbrev En := List (Option D)
structure Exn where
  cls : Str
  fs : Option (List (Str × D))
inductive Res (α : Type) where
  | ok (a : α) (s : Sto) | err (e : Exn) (s : Sto) | bad
def Res.bind {α β : Type} (r : Res α) (k : α → Sto → Res β) : Res β := match r with
  | .ok a s => k a s
  | .err e s => .err e s
  | .bad => .bad
inductive RS where
  | nx (ρ : En) (s : Sto) | rt (d : D) (s : Sto) | bk (ρ : En) (s : Sto) | ct (ρ : En) (s : Sto) | err (e : Exn) (ρ : En) (s : Sto) | bad
def Res.st {α : Type} (ρ : En) (r : Res α) (k : α → Sto → RS) : RS := match r with
  | .ok a s => k a s
  | .err e s => .err e ρ s
  | .bad => .bad
def RS.next (r : RS) (k : En → Sto → RS) : RS := match r with
  | .nx ρ s => k ρ s
  | r => r
abbrev GE := En → Sto → Res D
abbrev GT := En → Sto → Res Bool
abbrev GA := En → Sto → Res (List D)
abbrev GS := En → Sto → RS
abbrev Fn := List D → Sto → Res D

/-! ### how data lie in the heap -/
mutual
def Rep (K : PySem.W.Frag) (α : List Addr) (H : Hp) : D → V → Prop
  | .non, v => v = .non
  | .bl b, v => v = .bl b
  | .int i, v => v = .int i
  | .str x, v => v = .str x
  | .ref n, v => ∃ a, α[n]? = some a ∧ v = .ref a
  | .hot a dn, v => v = .ref a ∧ ∀ p, dn = some p → α[p.2]? = some p.1
  | .tup ds, v => ∃ a vs, v = .ref a ∧ SqT K H a vs ∧ RepL K α H ds vs
def RepL (K : PySem.W.Frag) (α : List Addr) (H : Hp) : List D → List V → Prop
  | [], vs => vs = []
  | d :: ds, vs => ∃ v r, vs = v :: r ∧ Rep K α H d v ∧ RepL K α H ds r
end
/-- a list of the written part -/
def KL (K : PySem.W.Frag) (a : Addr) (xs : List V) : Prop :=
  ∃ (o : Obj) (its : Array Value) (n : Nat), K.lookup a = some o ∧ o.cls = .type "list" ∧ o.dict = none ∧ o.data = .seq its n ∧ its.size ≤ sizeLine ∧ Vals xs its.toList
def RepF {κ : Type} (K : PySem.W.Frag) (α : List Addr) (H : Hp) (l : List (κ × D)) (m : List (κ × V)) : Prop := m.map (·.1) = l.map (·.1) ∧ RepL K α H (l.map (·.2)) (m.map (·.2))
/-- where the code object of the def x stands, and its table -/
def cdA (K : PySem.W.Frag) (x : Str) : Addr := match K.lookup (He.ga K x) with
  | some ⟨_, _, .func fd, _⟩ => (match fd.code with
    | .ref c => c
    | _ => 0)
  | _ => 0
def tbA (K : PySem.W.Frag) (x : Str) : Addr := match K.lookup (cdA K x) with
  | some ⟨_, _, .fields vs, _⟩ => (match (vs[11]? : Option Value) with
    | some (.ref P) => P
    | _ => 0)
  | _ => 0
/-- how the lambda in the def x is called -/
def lamQ (x : Str) : Str := x ++ ".<locals>." ++ "<lambda>"
/-- at a: an exception of the class at C that is kept, its dict at d -/
def exk (a C d : Addr) : HO := .ext fun h => ∃ (oe : Obj) (vs : Array Value), h.get? a = some oe ∧ Zc (.ref C) (some d) oe ∧ oe.data = .fields vs
def ORel (K : PySem.W.Frag) (α : List Addr) (H : Hp) : O → Addr → Prop
  | .lst ds, a => ∃ vs, H a = some (.lst vs) ∧ RepL K α H ds vs
  | .scr ds, a => ∃ vs, ((∃ o, H a = some (.frz o (.lst vs))) ∨ KL K a vs) ∧ RepL K α H ds vs
  | .dk kvs, a => ∃ kv, H a = some (.dK kv) ∧ RepF K α H kvs kv
  | .lk kvs, a => ∃ kv ob, H a = some (.frz ob (.dK kv)) ∧ RepF K α H kvs kv
  | .ins c fs, a => ∃ dx fv, H a = some (.ins (He.ga K c) dx fv) ∧ RepF K α H fs fv
  | .tab x, a => a = tbA K x ∧ LamX.TabS H a (lamQ x)
  | .xd fs, a => ∃ fv, H a = some (.xd fv) ∧ RepF K α H fs fv
  | .dt kvs, a => ∃ kv, H a = some (.dT kv) ∧ RepF K α H kvs kv
  | .exv c m, a => ∃ d, α[m]? = some d ∧ H a = some (exk a (He.ga K c) d)
def mutb : O → Bool
  | .scr _ => false
  | .xd _ => false
  | .exv _ _ => false
  | _ => true
structure SOk (K : PySem.W.Frag) (α : List Addr) (H : Hp) (s : Sto) : Prop where
  len : α.length = s.length
  at_ : ∀ (n : Nat) (o : O), s[n]? = some o → ∃ a, α[n]? = some a ∧ ORel K α H o a
  nd : ∀ (m n : Nat) (om on : O) (a : Addr), m ≠ n → s[m]? = some om → s[n]? = some on → mutb om = true → mutb on = true → α[m]? = some a → α[n]? ≠ some a
def ERel (K : PySem.W.Frag) (α : List Addr) (H : Hp) (ρ : En) (σ : L2.St) : Prop := ρ.length = σ.length ∧ ∀ (i : Nat) (d : D), ρ[i]? = some (some d) → ∃ v, σ[i]? = some (some v) ∧ Rep K α H d v
/-- tuples stay, names of objects stay -/
structure LeT (K : PySem.W.Frag) (α : List Addr) (H : Hp) (α' : List Addr) (H' : Hp) : Prop where
  pre : ∃ t, α' = α ++ t
  tup : ∀ a vs, SqT K H a vs → SqT K H' a vs
  code : ∀ c q, H c = some (LamX.CodeO c q) → H' c = some (LamX.CodeO c q)
/-- .. and a dict that is walked stays -/
structure Le (K : PySem.W.Frag) (α : List Addr) (H : Hp) (α' : List Addr) (H' : Hp) : Prop extends LeT K α H α' H' where
  lk : ∀ a ob kv, H a = some (.frz ob (.dK kv)) → H' a = some (.frz ob (.dK kv))
variable {K : PySem.W.Frag} {α α' α1 α2 : List Addr} {H H' H1 H2 : Hp} {s s' s1 s2 : Sto} {ρ ρ' : En} {σ σ' : L2.St}
theorem Le.refl : Le K α H α H := ⟨⟨⟨[], by simp⟩, fun _ _ h => h, fun _ _ h => h⟩, fun _ _ _ h => h⟩
theorem Le.trans (a : Le K α H α1 H1) (b : Le K α1 H1 α2 H2) : Le K α H α2 H2 := by
  obtain ⟨⟨⟨t, e⟩, p, p2⟩, x⟩ := a
  obtain ⟨⟨⟨u, f⟩, q, q2⟩, y⟩ := b
  exact ⟨⟨⟨t ++ u, by rw [f, e, List.append_assoc]⟩, fun a vs h => q _ _ (p _ _ h), fun c z h => q2 _ _ (p2 _ _ h)⟩, fun a ob kv h => y _ _ _ (x _ _ _ h)⟩
theorem LeT.get (a : LeT K α H α' H') {n : Nat} {x : Addr} (h : α[n]? = some x) : α'[n]? = some x := by
  obtain ⟨⟨t, e⟩, _, _⟩ := a
  obtain ⟨hl, _⟩ := List.getElem?_eq_some_iff.mp h
  rw [e, List.getElem?_append_left hl]
  exact h
mutual
theorem Rep.monoT (l : LeT K α H α' H') : ∀ {d : D} {v : V}, Rep K α H d v → Rep K α' H' d v
  | .non, v, h => h
  | .bl b, v, h => h
  | .int i, v, h => h
  | .str x, v, h => h
  | .ref n, v, h => by
    obtain ⟨a, h1, h2⟩ := h
    exact ⟨a, l.get h1, h2⟩
  | .hot a dn, v, h => ⟨h.1, fun p e => l.get (h.2 p e)⟩
  | .tup ds, v, h => by
    obtain ⟨a, vs, h1, h2, h3⟩ := h
    exact ⟨a, vs, h1, l.tup _ _ h2, RepL.monoT l h3⟩
theorem RepL.monoT (l : LeT K α H α' H') : ∀ {ds : List D} {vs : List V}, RepL K α H ds vs → RepL K α' H' ds vs
  | [], vs, h => h
  | d :: ds, vs, h => by
    obtain ⟨v, r, h1, h2, h3⟩ := h
    exact ⟨v, r, h1, Rep.monoT l h2, RepL.monoT l h3⟩
end
theorem Le.get (a : Le K α H α' H') {n : Nat} {x : Addr} (h : α[n]? = some x) : α'[n]? = some x := LeT.get a.toLeT h
theorem Rep.mono (l : Le K α H α' H') {d : D} {v : V} (h : Rep K α H d v) : Rep K α' H' d v := Rep.monoT l.toLeT h
theorem RepL.mono (l : Le K α H α' H') {ds : List D} {vs : List V} (h : RepL K α H ds vs) : RepL K α' H' ds vs := RepL.monoT l.toLeT h
theorem RepF.monoT {κ : Type} {a : List (κ × D)} {b : List (κ × V)} (l : LeT K α H α' H') (h : RepF K α H a b) : RepF K α' H' a b := ⟨h.1, h.2.monoT l⟩
theorem ERel.monoT (l : LeT K α H α' H') (h : ERel K α H ρ σ) : ERel K α' H' ρ σ := ⟨h.1, fun i d e => by
  obtain ⟨v, h1, h2⟩ := h.2 i d e
  exact ⟨v, h1, h2.monoT l⟩⟩
theorem RepF.mono {κ : Type} {a : List (κ × D)} {b : List (κ × V)} (l : Le K α H α' H') (h : RepF K α H a b) : RepF K α' H' a b := ⟨h.1, h.2.mono l⟩
theorem ERel.mono (l : Le K α H α' H') (h : ERel K α H ρ σ) : ERel K α' H' ρ σ := ⟨h.1, fun i d e => by
  obtain ⟨v, h1, h2⟩ := h.2 i d e
  exact ⟨v, h1, h2.mono l⟩⟩
theorem ERel.set (h : ERel K α H ρ σ) {i : Nat} {d : D} {v : V} (r : Rep K α H d v) : ERel K α H (ρ.set i (some d)) (σ.set i (some v)) := by
  refine ⟨by rw [List.length_set, List.length_set]; exact h.1, fun j e he => ?_⟩
  rw [List.getElem?_set] at he
  rw [List.getElem?_set]
  by_cases hij : i = j
  · subst hij
    rw [if_pos rfl] at he
    rw [if_pos rfl]
    by_cases hl : i < ρ.length
    · rw [if_pos hl] at he
      rw [if_pos (h.1 ▸ hl)]
      cases he
      exact ⟨v, rfl, r⟩
    · rw [if_neg hl] at he
      cases he
  · rw [if_neg hij] at he
    rw [if_neg hij]
    exact h.2 j e he
theorem ERel.unset (h : ERel K α H ρ σ) {i : Nat} : ERel K α H (ρ.set i none) (σ.set i none) := by
  refine ⟨by rw [List.length_set, List.length_set]; exact h.1, fun j e he => ?_⟩
  rw [List.getElem?_set] at he
  rw [List.getElem?_set]
  by_cases hij : i = j
  · subst hij
    rw [if_pos rfl] at he
    by_cases hl : i < ρ.length
    · rw [if_pos hl] at he
      cases he
    · rw [if_neg hl] at he
      cases he
  · rw [if_neg hij] at he
    rw [if_neg hij]
    exact h.2 j e he
/-! lists of data and of values -/
theorem RepL.length : ∀ {ds : List D} {vs : List V}, RepL K α H ds vs → vs.length = ds.length
  | [], vs, h => by
    have e : vs = [] := h
    subst e
    rfl
  | d :: ds, vs, h => by
    obtain ⟨v, r, h1, _, h3⟩ := h
    rw [h1]
    exact congrArg Nat.succ (RepL.length h3)
theorem RepL.get : ∀ {ds : List D} {vs : List V} {i : Nat} {d : D}, RepL K α H ds vs → ds[i]? = some d → ∃ v, vs[i]? = some v ∧ Rep K α H d v
  | [], vs, i, d, h, e => by simp at e
  | d :: ds, vs, 0, e, h, q => by
    obtain ⟨v, r, h1, h2, h3⟩ := h
    simp at q
    subst q
    exact ⟨v, by rw [h1]; rfl, h2⟩
  | d :: ds, vs, i + 1, e, h, q => by
    obtain ⟨v, r, h1, h2, h3⟩ := h
    obtain ⟨u, a, b⟩ := RepL.get (i := i) h3 (by simpa using q)
    exact ⟨u, by rw [h1]; simpa using a, b⟩
theorem RepL.cons {d : D} {v : V} {ds : List D} {vs : List V} (h : Rep K α H d v) (r : RepL K α H ds vs) : RepL K α H (d :: ds) (v :: vs) := ⟨v, vs, rfl, h, r⟩
theorem RepL.append : ∀ {ds es : List D} {vs us : List V}, RepL K α H ds vs → RepL K α H es us → RepL K α H (ds ++ es) (vs ++ us)
  | [], es, vs, us, h, g => by rw [show vs = [] from h]; exact g
  | d :: ds, es, vs, us, h, g => by
    obtain ⟨v, r, h1, h2, h3⟩ := h
    rw [h1]
    exact .cons h2 (RepL.append h3 g)
theorem RepL.take : ∀ {ds : List D} {vs : List V} (n : Nat), RepL K α H ds vs → RepL K α H (ds.take n) (vs.take n)
  | ds, vs, 0, h => by
    show RepL K α H (ds.take 0) (vs.take 0)
    rw [List.take_zero, List.take_zero]
    exact rfl
  | [], vs, n + 1, h => by rw [show vs = [] from h]; exact rfl
  | d :: ds, vs, n + 1, h => by
    obtain ⟨v, r, h1, h2, h3⟩ := h
    rw [h1]
    exact .cons h2 (RepL.take n h3)
theorem RepL.drop : ∀ {ds : List D} {vs : List V} (n : Nat), RepL K α H ds vs → RepL K α H (ds.drop n) (vs.drop n)
  | ds, vs, 0, h => by
    rw [List.drop_zero, List.drop_zero]
    exact h
  | [], vs, n + 1, h => by rw [show vs = [] from h]; exact rfl
  | d :: ds, vs, n + 1, h => by
    obtain ⟨v, r, h1, h2, h3⟩ := h
    rw [h1]
    exact RepL.drop n h3
theorem RepL.set : ∀ {ds : List D} {vs : List V} (i : Nat) {d : D} {v : V}, RepL K α H ds vs → Rep K α H d v → RepL K α H (ds.set i d) (vs.set i v)
  | [], vs, i, d, v, h, g => by rw [show vs = [] from h]; exact rfl
  | e :: ds, vs, 0, d, v, h, g => by
    obtain ⟨u, r, h1, h2, h3⟩ := h
    rw [h1]
    exact .cons g h3
  | e :: ds, vs, i + 1, d, v, h, g => by
    obtain ⟨u, r, h1, h2, h3⟩ := h
    rw [h1]
    exact .cons h2 (RepL.set i h3 g)
theorem RepL.ints : ∀ {ns : List Int} {vs : List V}, RepL K α H (ns.map D.int) vs ↔ vs = ns.map V.int
  | [], vs => Iff.rfl
  | n :: ns, vs => by
    constructor
    · intro h
      obtain ⟨v, r, h1, h2, h3⟩ := h
      rw [h1, show v = .int n from h2, RepL.ints.mp h3]
      rfl
    · intro h
      exact ⟨.int n, ns.map V.int, h, rfl, RepL.ints.mpr rfl⟩
/-! ### the store under changes of the heap -/
theorem ORel.monoT (l : LeT K α H α' H') {o : O} {a : Addr} (hs : ∀ u, H a = some u → H' a = some u) (h : ORel K α H o a) : ORel K α' H' o a := by
  cases o with
  | lst ds =>
    obtain ⟨vs, h1, h2⟩ := h
    exact ⟨vs, hs _ h1, h2.monoT l⟩
  | scr ds =>
    obtain ⟨vs, h1, h2⟩ := h
    refine ⟨vs, ?_, h2.monoT l⟩
    rcases h1 with ⟨o, h1⟩ | h1
    · exact .inl ⟨o, hs _ h1⟩
    · exact .inr h1
  | dk kvs =>
    obtain ⟨kv, h1, h2⟩ := h
    exact ⟨kv, hs _ h1, h2.monoT l⟩
  | lk kvs =>
    obtain ⟨kv, ob, h1, h2⟩ := h
    exact ⟨kv, ob, hs _ h1, h2.monoT l⟩
  | ins c fs =>
    obtain ⟨dx, fv, h1, h2⟩ := h
    exact ⟨dx, fv, hs _ h1, h2.monoT l⟩
  | tab x =>
    obtain ⟨h0, ps, h1, h2, h3⟩ := h
    refine ⟨h0, ps, hs _ h1, h2, fun pos cv hc => ?_⟩
    obtain ⟨c, e1, e2⟩ := h3 pos cv hc
    exact ⟨c, e1, l.code _ _ e2⟩
  | xd fs =>
    obtain ⟨fv, h1, h2⟩ := h
    exact ⟨fv, hs _ h1, h2.monoT l⟩
  | dt kvs =>
    obtain ⟨kv, h1, h2⟩ := h
    exact ⟨kv, hs _ h1, h2.monoT l⟩
  | exv c m =>
    obtain ⟨d, h1, h2⟩ := h
    exact ⟨d, l.get h1, hs _ h2⟩
theorem ORel.mono (l : Le K α H α' H') {o : O} {a : Addr} (hs : ∀ u, H a = some u → H' a = some u) (h : ORel K α H o a) : ORel K α' H' o a := ORel.monoT l.toLeT hs h
/-- a new thing beside: tuples stay -/
theorem Le.new {p : Addr} {o : HO} (h : H p = none) : Le K α H α (upd H p o) := ⟨⟨⟨[], by simp⟩, fun a vs q => by
  rcases q with (q | ⟨z, q⟩) | q
  · exact .inl (.inl (by rw [upd_ne (ne_of_none q h)]; exact q))
  · exact .inl (.inr ⟨z, by rw [upd_ne (ne_of_none q h)]; exact q⟩)
  · exact .inr q, fun c z q => by rw [upd_ne (ne_of_none q h)]; exact q⟩, fun a ob kv q => by rw [upd_ne (ne_of_none q h)]; exact q⟩
theorem Le.grow (a : Addr) : Le K α H (α ++ [a]) H := ⟨⟨⟨[a], rfl⟩, fun _ _ h => h, fun _ _ h => h⟩, fun _ _ _ h => h⟩
/-- a thing that may change is changed -/
theorem LeT.write {p : Addr} {o u : HO} (h : H p = some u) (hm : ∀ xs, u ≠ .tup xs) (hf : ∀ ob xs, u ≠ .frz ob (.tup xs)) (hc : ∀ c q, u ≠ LamX.CodeO c q := by intro c q z; unfold LamX.CodeO at z; cases z) : LeT K α H α (upd H p o) := ⟨⟨[], by simp⟩, fun a vs q => by
  rcases q with (q | ⟨z, q⟩) | q
  · refine .inl (.inl ?_)
    rw [upd_ne (ne_of q h fun e => hm vs e.symm)]
    exact q
  · refine .inl (.inr ⟨z, ?_⟩)
    rw [upd_ne (ne_of q h fun e => hf _ _ e.symm)]
    exact q
  · exact .inr q, fun c z q => by
  rw [upd_ne (ne_of q h fun e => hc _ _ e.symm)]
  exact q⟩
theorem Le.write {p : Addr} {o u : HO} (h : H p = some u) (hm : ∀ xs, u ≠ .tup xs) (hf : ∀ ob w, u ≠ .frz ob w) (hc : ∀ c q, u ≠ LamX.CodeO c q := by intro c q z; unfold LamX.CodeO at z; cases z) : Le K α H α (upd H p o) := ⟨LeT.write h hm (fun ob xs => hf ob _) hc, fun a ob kv q => by
  rw [upd_ne (ne_of q h fun e => hf _ _ e.symm)]
  exact q⟩
theorem SOk.new {p : Addr} {o : HO} (S : SOk K α H s) (h : H p = none) : SOk K α (upd H p o) s := ⟨S.len, fun n ob e => by
  obtain ⟨a, h1, h2⟩ := S.at_ n ob e
  exact ⟨a, h1, h2.mono (Le.new h) fun u q => by rw [upd_ne (ne_of_none q h)]; exact q⟩, S.nd⟩
/-- a new object -/
theorem SOk.alloc {p : Addr} {u : HO} {o : O} (S : SOk K α H s) (h : H p = none) (hm : ∀ α' H', Le K α H α' H' → H' p = some u → ORel K α' H' o p) : SOk K (α ++ [p]) (upd H p u) (s ++ [o]) ∧ Le K α H (α ++ [p]) (upd H p u) := by
  have l1 : Le K α H (α ++ [p]) (upd H p u) := (Le.new h).trans (Le.grow p)
  refine ⟨⟨by rw [List.length_append, List.length_append, S.len]; rfl, fun n ob e => ?_, fun m n om on a hmn em en mm mn am an => ?_⟩, l1⟩
  · rcases Nat.lt_or_ge n s.length with hn | hn
    · rw [List.getElem?_append_left hn] at e
      obtain ⟨a, h1, h2⟩ := S.at_ n ob e
      refine ⟨a, l1.get h1, h2.mono l1 fun z q => by rw [upd_ne (ne_of_none q h)]; exact q⟩
    · rw [List.getElem?_append_right hn] at e
      have hz : n - s.length = 0 := by
        rcases Nat.eq_zero_or_pos (n - s.length) with z | z
        · exact z
        · rw [List.getElem?_eq_none (show ([o] : List O).length ≤ n - s.length from z)] at e
          cases e
      rw [hz] at e
      have eo : o = ob := by simpa using e
      subst eo
      refine ⟨p, ?_, hm _ _ l1 upd_same⟩
      rw [List.getElem?_append_right (by rw [S.len]; exact hn), S.len, hz]
      rfl
  · -- addresses differ
    have old : ∀ i oi b, i < s.length → (s ++ [o])[i]? = some oi → mutb oi = true → (α ++ [p])[i]? = some b → b ≠ p := fun i oi b hi ei mi bi z => by
      rw [List.getElem?_append_left hi] at ei
      rw [List.getElem?_append_left (by rw [S.len]; exact hi)] at bi
      obtain ⟨a', h1, h2⟩ := S.at_ i oi ei
      rw [bi] at h1
      cases h1
      subst z
      cases oi with
      | scr ds => cases mi
      | xd fs => cases mi
      | exv c m => cases mi
      | lst ds => obtain ⟨vs, q, _⟩ := h2; rw [h] at q; cases q
      | dk ds => obtain ⟨vs, q, _⟩ := h2; rw [h] at q; cases q
      | lk ds => obtain ⟨vs, ob, q, _⟩ := h2; rw [h] at q; cases q
      | ins c fs => obtain ⟨dx, fv, q, _⟩ := h2; rw [h] at q; cases q
      | tab x => obtain ⟨_, ps, q, _⟩ := h2; rw [h] at q; cases q
      | dt ds => obtain ⟨vs, q, _⟩ := h2; rw [h] at q; cases q
    have top : ∀ i oi, ¬ i < s.length → (s ++ [o])[i]? = some oi → i = s.length := fun i oi hi ei => by
      have := (List.getElem?_eq_some_iff.mp ei).1
      rw [List.length_append, List.length_singleton] at this
      omega
    have atp : (α ++ [p])[s.length]? = some p := by
      rw [List.getElem?_append_right (by rw [S.len]; exact Nat.le_refl _), S.len, Nat.sub_self]
      rfl
    by_cases h1 : m < s.length
    · by_cases h2 : n < s.length
      · rw [List.getElem?_append_left h1] at em
        rw [List.getElem?_append_left h2] at en
        rw [List.getElem?_append_left (by rw [S.len]; exact h1)] at am
        rw [List.getElem?_append_left (by rw [S.len]; exact h2)] at an
        exact S.nd m n om on a hmn em en mm mn am an
      · have := top n on h2 en
        subst this
        rw [atp] at an
        exact old m om a h1 em mm am (Option.some.inj an).symm
    · have e1 := top m om h1 em
      subst e1
      rw [atp] at am
      have h2 : n < s.length := by
        rcases Nat.lt_or_ge n s.length with z | z
        · exact z
        · exact absurd (top n on (Nat.not_lt.mpr z) en).symm hmn
      exact old n on a h2 en mn an (Option.some.inj am).symm
/-- an object is changed -/
theorem SOk.writeT {n : Nat} {p : Addr} {u u' : HO} {o o' : O} (S : SOk K α H s) (e : s[n]? = some o) (ea : α[n]? = some p) (h : H p = some u) (mo : mutb o = true) (mo' : mutb o' = true) (hm : ∀ xs, u ≠ .tup xs) (hf : ∀ ob xs, u ≠ .frz ob (.tup xs)) (hf2 : ∀ ob xs, u ≠ .frz ob (.lst xs))
    (new : ∀ H', LeT K α H α H' → H' p = some u' → ORel K α H' o' p) (hc : ∀ c q, u ≠ LamX.CodeO c q := by intro c q z; unfold LamX.CodeO at z; cases z) (hx : ∀ fs, u ≠ .xd fs := by intro fs z; cases z) (hv : ∀ a C d, u ≠ exk a C d := by intro a C d z; unfold exk at z; cases z) : SOk K α (upd H p u') (s.set n o') ∧ LeT K α H α (upd H p u') := by
  have l1 : LeT K α H α (upd H p u') := LeT.write h hm hf hc
  have hn : n < s.length := (List.getElem?_eq_some_iff.mp e).1
  refine ⟨⟨by rw [List.length_set]; exact S.len, fun m ob em => ?_, fun m k om ok a hmk em ek mm mk am ak => ?_⟩, l1⟩
  · rw [List.getElem?_set] at em
    by_cases hnm : n = m
    · subst hnm
      rw [if_pos rfl, if_pos hn] at em
      cases em
      exact ⟨p, ea, new _ l1 upd_same⟩
    · rw [if_neg hnm] at em
      obtain ⟨a, h1, h2⟩ := S.at_ m ob em
      refine ⟨a, h1, ?_⟩
      have keep : mutb ob = true → ORel K α (upd H p u') ob a := fun mb => h2.monoT l1 fun z q => by
        have z3 : a ≠ p := fun z2 => S.nd m n _ _ a (Ne.symm hnm) em e mb mo h1 (z2.symm ▸ ea)
        rw [upd_ne z3]
        exact q
      cases ob with
      | scr ds =>
        obtain ⟨vs, g1, g2⟩ := h2
        rcases g1 with ⟨ob2, g1⟩ | g1
        · exact ⟨vs, .inl ⟨ob2, by rw [upd_ne (ne_of g1 h fun z => hf2 _ _ z.symm)]; exact g1⟩, g2.monoT l1⟩
        · exact ⟨vs, .inr g1, g2.monoT l1⟩
      | lst ds => exact keep rfl
      | dk ds => exact keep rfl
      | lk ds => exact keep rfl
      | ins c fs => exact keep rfl
      | tab x => exact keep rfl
      | dt ds => exact keep rfl
      | xd fs =>
        obtain ⟨fv, g1, g2⟩ := h2
        exact ⟨fv, by rw [upd_ne (ne_of g1 h fun z => hx _ z.symm)]; exact g1, g2.monoT l1⟩
      | exv c m =>
        obtain ⟨d, g1, g2⟩ := h2
        exact ⟨d, g1, by rw [upd_ne (ne_of g2 h fun z => hv _ _ _ z.symm)]; exact g2⟩
  · rw [List.getElem?_set] at em ek
    have get : ∀ j oj, (if n = j then if n < s.length then some o' else none else s[j]?) = some oj → ∃ z, s[j]? = some z ∧ (mutb oj = true → mutb z = true) := fun j oj q => by
      by_cases hj : n = j
      · subst hj
        exact ⟨o, e, fun _ => mo⟩
      · rw [if_neg hj] at q
        exact ⟨oj, q, id⟩
    obtain ⟨z1, g1, g2⟩ := get m om em
    obtain ⟨z2, k1, k2⟩ := get k ok ek
    exact S.nd m k z1 z2 a hmk g1 k1 (g2 mm) (k2 mk) am ak
theorem SOk.write {n : Nat} {p : Addr} {u u' : HO} {o o' : O} (S : SOk K α H s) (e : s[n]? = some o) (ea : α[n]? = some p) (h : H p = some u) (mo : mutb o = true) (mo' : mutb o' = true) (hm : ∀ xs, u ≠ .tup xs) (hf : ∀ ob w, u ≠ .frz ob w)
    (new : ∀ H', LeT K α H α H' → H' p = some u' → ORel K α H' o' p) (hc : ∀ c q, u ≠ LamX.CodeO c q := by intro c q z; unfold LamX.CodeO at z; cases z) (hx : ∀ fs, u ≠ .xd fs := by intro fs z; cases z) (hv : ∀ a C d, u ≠ exk a C d := by intro a C d z; unfold exk at z; cases z) : SOk K α (upd H p u') (s.set n o') ∧ Le K α H α (upd H p u') := by
  obtain ⟨S1, l1⟩ := SOk.writeT S e ea h mo mo' hm (fun ob xs => hf ob _) (fun ob xs => hf ob _) new hc hx hv
  exact ⟨S1, Le.write h hm hf hc⟩
/-- a dict is locked -/
theorem SOk.lock {n : Nat} {p : Addr} {od : Obj} {l : List (Key × D)} {kv : List (Key × V)} (S : SOk K α H s) (e : s[n]? = some (.dk l)) (ea : α[n]? = some p) (h : H p = some (.dK kv)) (r : RepF K α H l kv) :
    SOk K α (upd H p (.frz od (.dK kv))) (s.set n (.lk l)) ∧ Le K α H α (upd H p (.frz od (.dK kv))) :=
  SOk.write S e ea h rfl rfl (fun _ z => by cases z) (fun _ _ z => by cases z) fun H' l z => ⟨kv, od, z, r.monoT l⟩
end PD

/-! Pd1: what a reading refines; expressions. -/
namespace PD
open PySem L2

/-! ### results against continuations -/
def XRep (K : PySem.W.Frag) (α : List Addr) (H : Hp) (e : Exn) (c : Value) (dd : Option Addr) : Prop :=
  c = .ref (He.ga K e.cls) ∧ match e.fs, dd with
    | none, none => True
    | some l, some a => ∃ fv, H a = some (.xd fv) ∧ RepF K α H l fv
    | _, _ => False
def Post {β γ : Type} (K : PySem.W.Frag) (rel : List Addr → Hp → β → γ → Prop) (W : WX) (α : List Addr) (H : Hp) (σ : L2.St) (r : Res β) (Q : γ → Hp → Prop) : Prop := match r with
  | .ok d s => ∀ v α' H', Le K α H α' H' → SOk K α' H' s → rel α' H' d v → Q v H'
  | .err e s => ∀ c dd α' H', Le K α H α' H' → SOk K α' H' s → XRep K α' H' e c dd → W c dd σ H'
  | .bad => False
/-- values alone: nothing is raised -/
def PV {β γ : Type} (K : PySem.W.Frag) (rel : List Addr → Hp → β → γ → Prop) (α : List Addr) (H : Hp) (r : Res β) (Q : γ → Hp → Prop) : Prop := match r with
  | .ok d s => ∀ v α' H', Le K α H α' H' → SOk K α' H' s → rel α' H' d v → Q v H'
  | _ => False
def rB (_ : List Addr) (_ : Hp) (a b : Bool) : Prop := b = a
section
variable {K : PySem.W.Frag} {α α' α1 α2 : List Addr} {H H' H1 H2 : Hp} {s s' s1 s2 : Sto} {ρ ρ' : En} {σ σ' : L2.St} {W : WX}
theorem Post.mono {β γ : Type} {rel : List Addr → Hp → β → γ → Prop} {r : Res β} {Q : γ → Hp → Prop} (l : Le K α H α1 H1) (h : Post K rel W α H σ r Q) : Post K rel W α1 H1 σ r Q := by
  cases r with
  | ok d s => exact fun v α' H' l1 S R => h v α' H' (l.trans l1) S R
  | err e s => exact fun c dd α' H' l1 S R => h c dd α' H' (l.trans l1) S R
  | bad => exact h
theorem PV.mono {β γ : Type} {rel : List Addr → Hp → β → γ → Prop} {r : Res β} {Q : γ → Hp → Prop} (l : Le K α H α1 H1) (h : PV K rel α H r Q) : PV K rel α1 H1 r Q := by
  cases r with
  | ok d s => exact fun v α' H' l1 S R => h v α' H' (l.trans l1) S R
  | err e s => exact h
  | bad => exact h
theorem Post.bind {β γ β' γ' : Type} {rel : List Addr → Hp → β → γ → Prop} {rel' : List Addr → Hp → β' → γ' → Prop} {r : Res β} {k : β → Sto → Res β'} {Q : γ' → Hp → Prop} {Q' : γ → Hp → Prop} (h : Post K rel' W α H σ (r.bind k) Q)
    (hk : ∀ d s1 v α1 H1, Le K α H α1 H1 → SOk K α1 H1 s1 → rel α1 H1 d v → Post K rel' W α1 H1 σ (k d s1) Q → Q' v H1) : Post K rel W α H σ r Q' := by
  cases r with
  | ok d s => exact fun v α' H' l S R => hk d s v α' H' l S R (Post.mono (r := k d s) l h)
  | err e s => exact h
  | bad => exact h
/-- what can't raise -/
def Res.still {β : Type} (r : Res β) : Res β := match r with
  | .err _ _ => .bad
  | r => r
theorem Post.still {β γ : Type} {rel : List Addr → Hp → β → γ → Prop} {r : Res β} {Q : γ → Hp → Prop} (h : Post K rel W α H σ r.still Q) : PV K rel α H r Q := by
  cases r with
  | ok d s => exact h
  | err e s => exact h
  | bad => exact h
end
/-! ### readings that refine functions over data -/
def RefE (K : PySem.W.Frag) (W : WX) (t : TE) (g : GE) : Prop := ∀ ρ s σ α H Q, ERel K α H ρ σ → SOk K α H s → Post K (Rep K) W α H σ (g ρ s) Q → t σ H Q
def RefT (K : PySem.W.Frag) (W : WX) (t : TT) (g : GT) : Prop := ∀ ρ s σ α H Q, ERel K α H ρ σ → SOk K α H s → Post K rB W α H σ (g ρ s) Q → t σ H Q
def RefA (K : PySem.W.Frag) (W : WX) (t : TA) (g : GA) : Prop := ∀ ρ s σ α H Q, ERel K α H ρ σ → SOk K α H s → Post K (RepL K) W α H σ (g ρ s) Q → t σ H Q
def JE (X : Cx) (W : WX) (e : Expr) (g : GE) : Prop := ∃ t, PE X e t ∧ RefE X.K W t g
def JT (X : Cx) (W : WX) (e : Expr) (g : GT) : Prop := ∃ t, PT X e t ∧ RefT X.K W t g
def JW (X : Cx) (W : WX) (e : Expr) (g : GT) : Prop := ∃ t, PW X e t ∧ RefT X.K W t g
def JA (X : Cx) (W : WX) (es : List Expr) (g : GA) : Prop := ∃ t, PA X es t ∧ RefA X.K W t g
/-- an operation on two values -/
abbrev Op2 := D → D → Sto → Res D
def RefO (K : PySem.W.Frag) (r : R2) (op : Op2) : Prop := ∀ x y d e α H s Q, SOk K α H s → Rep K α H d x → Rep K α H e y → PV K (Rep K) α H (op d e s) Q → r x y H Q
def JO (X : Cx) (f : Value → Value → Sem Value) (op : Op2) : Prop := ∃ r, OpR X f r ∧ RefO X.K r op
/-- the first of two that answers -/
def Res.or {β : Type} (r r' : Res β) : Res β := match r with
  | .bad => r'
  | r => r
def op2or (f g : Op2) : Op2 := fun d e s => (f d e s).or (g d e s)
section
variable {X : Cx} {W : WX} {K : PySem.W.Frag} {α α' : List Addr} {H H' : Hp} {s s' : Sto}
theorem PV.or {β γ : Type} {rel : List Addr → Hp → β → γ → Prop} {r r' : Res β} {Q : γ → Hp → Prop} (h : PV K rel α H (r.or r') Q) : PV K rel α H r Q ∨ PV K rel α H r' Q := by
  cases r with
  | ok d s => exact .inl h
  | err e s => exact h.elim
  | bad => exact .inr h
theorem JO.or {f : Value → Value → Sem Value} {a b : Op2} (ha : JO X f a) (hb : JO X f b) : JO X f (op2or a b) := by
  obtain ⟨r, p, q⟩ := ha
  obtain ⟨r', p', q'⟩ := hb
  refine ⟨_, p.or p', fun x y d e α H s Q S R1 R2 h => ?_⟩
  rcases PV.or h with h | h
  · exact .inl (q x y d e α H s Q S R1 R2 h)
  · exact .inr (q' x y d e α H s Q S R1 R2 h)
/-- a value that is told at once -/
theorem PV.here {β γ : Type} {rel : List Addr → Hp → β → γ → Prop} {d : β} {v : γ} {Q : γ → Hp → Prop} (h : PV K rel α H (.ok d s) Q) (S : SOk K α H s) (r : rel α H d v) : Q v H := h v α H Le.refl S r
theorem Post.here {β γ : Type} {rel : List Addr → Hp → β → γ → Prop} {σ : L2.St} {d : β} {v : γ} {Q : γ → Hp → Prop} (h : Post K rel W α H σ (.ok d s) Q) (S : SOk K α H s) (r : rel α H d v) : Q v H := h v α H Le.refl S r

/-! ### names, constants -/
def gVar (i : Nat) : GE := fun ρ s => match ρ[i]? with
  | some (some d) => .ok d s
  | _ => .bad
def gC (d : D) : GE := fun _ s => .ok d s
variable {e a b c : Expr} {es : List Expr} {ga gb gc : GE} {g : GE} {pos : Pos}
theorem je_var (i : Nat) {x : Str} {pos : Pos} (hN : X.N[i]? = some x := by rfl) (hv : Vis X.env.scope x := by first | exact Or.inl rfl | exact Or.inr (Or.inl rfl) | exact Or.inr (Or.inr rfl)) (hd : (x == ("__debug__" : Str)) = false := by decide) (hcd : (x == ("__classdict__" : Str)) = false := by decide) :
    JE X W (.Name x pos) (gVar i) := ⟨_, pe_var hN hv hd hcd, fun ρ s σ α H Q E S h => by
  unfold gVar at h
  cases e : ρ[i]? with
  | none => rw [e] at h; exact h.elim
  | some o =>
    rw [e] at h
    cases o with
    | none => exact h.elim
    | some d =>
      obtain ⟨v, h1, h2⟩ := E.2 i d e
      exact ⟨v, h1, h.here S h2⟩⟩
theorem je_int {i j pos} : JE X W (.Constant (.int i) j pos) (gC (.int i)) := ⟨_, pe_int, fun ρ s σ α H Q E S h => h.here S rfl⟩
theorem je_bl {i j pos} : JE X W (.Constant (.bool i) j pos) (gC (.bl i)) := ⟨_, pe_bl, fun ρ s σ α H Q E S h => h.here S rfl⟩
theorem je_str {i j pos} : JE X W (.Constant (.str i) j pos) (gC (.str i)) := ⟨_, pe_str, fun ρ s σ α H Q E S h => h.here S rfl⟩
/-! ### operators -/
def gOp (op : Op2) (a b : GE) : GE := fun ρ s => (a ρ s).bind fun x s1 => (b ρ s1).bind fun y s2 => op x y s2
theorem ref_op {ta tb : TE} {r : R2} {op : Op2} (ha : RefE K W ta ga) (hb : RefE K W tb gb) (hr : ∀ x y d e α H s σ Q, SOk K α H s → Rep K α H d x → Rep K α H e y → Post K (Rep K) W α H σ (op d e s) Q → r x y H Q) : RefE K W (tOp r ta tb) (gOp op ga gb) := fun ρ s σ α H Q E S h => by
  refine ha ρ s σ α H _ E S (Post.bind h fun d s1 v α1 H1 l1 S1 R1 h1 => ?_)
  refine hb ρ s1 σ α1 H1 _ (E.mono l1) S1 (Post.bind h1 fun d2 s2 v2 α2 H2 l2 S2 R2 h2 => ?_)
  exact hr v v2 d d2 α2 H2 s2 σ Q S2 (R1.mono l2) R2 h2
/-- an operation that raises nothing -/
def quiet (op : Op2) : Op2 := fun d e s => (op d e s).still
theorem je_op {op : Operator} {o : Op2} (ho : JO X (binaryOp op) o) (ha : JE X W a ga) (hb : JE X W b gb) : JE X W (.BinOp a op b pos) (gOp (quiet o) ga gb) := by
  obtain ⟨r, p, q⟩ := ho
  obtain ⟨ta, pa, qa⟩ := ha
  obtain ⟨tb, pb, qb⟩ := hb
  exact ⟨_, pe_op p pa pb, ref_op qa qb fun x y d e α H s σ Q S R1 R2 h => q x y d e α H s Q S R1 R2 (Post.still h)⟩
theorem je_cmp {op : CmpOp} {o : Op2} (ho : JO X (compareOp op) o) (ha : JE X W a ga) (hb : JE X W b gb) (hm : behindInMarks op b = false) : JE X W (.Compare a [op] [b] pos) (gOp (quiet o) ga gb) := by
  obtain ⟨r, p, q⟩ := ho
  obtain ⟨ta, pa, qa⟩ := ha
  obtain ⟨tb, pb, qb⟩ := hb
  exact ⟨_, pe_cmpR p pa pb hm, ref_op qa qb fun x y d e α H s σ Q S R1 R2 h => q x y d e α H s Q S R1 R2 (Post.still h)⟩
def gUn (op : D → Sto → Res D) (a : GE) : GE := fun ρ s => (a ρ s).bind fun x s1 => op x s1
def negD : D → Sto → Res D
  | .int i, s => .ok (.int (-i)) s
  | _, _ => .bad
/-- two ints in, one value out, under a condition that is decided -/
def iOp (C : Int → Int → Bool) (g : Int → Int → D) : Op2 := fun x y s => match x, y with
  | .int i, .int j => if C i j then .ok (g i j) s else .bad
  | _, _ => .bad
def iOp0 (g : Int → Int → D) : Op2 := fun x y s => match x, y with
  | .int i, .int j => .ok (g i j) s
  | _, _ => .bad
theorem jo_i {f : Value → Value → Sem Value} {C : Int → Int → Prop} {Cb : Int → Int → Bool} {g : Int → Int → V} {gD : Int → Int → D} (ho : OpR X f (rI C g)) (hC : ∀ i j, Cb i j = true → C i j) (hg : ∀ i j α H, Rep X.K α H (gD i j) (g i j)) : JO X f (iOp Cb gD) :=
  ⟨_, ho, fun x y d e α H s Q S R1 R2 h => by
    cases d with
    | int i =>
      cases e with
      | int j =>
        cases R1
        cases R2
        have h' : PV X.K (Rep X.K) α H (if Cb i j then .ok (gD i j) s else .bad) Q := h
        cases hc : Cb i j with
        | true =>
          rw [hc, if_pos rfl] at h'
          exact ⟨i, j, rfl, rfl, hC i j hc, h'.here S (hg i j α H)⟩
        | false =>
          rw [hc, if_neg Bool.false_ne_true] at h'
          exact h'.elim
      | _ => exact h.elim
    | _ => exact h.elim⟩
theorem jo_i0 {f : Value → Value → Sem Value} {g : Int → Int → V} {gD : Int → Int → D} (ho : OpR X f (rI0 g)) (hg : ∀ i j α H, Rep X.K α H (gD i j) (g i j)) : JO X f (iOp0 gD) :=
  ⟨_, ho, fun x y d e α H s Q S R1 R2 h => by
    cases d with
    | int i =>
      cases e with
      | int j =>
        cases R1
        cases R2
        have h' : PV X.K (Rep X.K) α H (.ok (gD i j) s) Q := h
        exact ⟨i, j, rfl, rfl, h'.here S (hg i j α H)⟩
      | _ => exact h.elim
    | _ => exact h.elim⟩
/-! the size of a text, a list: a line that all of them keep -/
abbrev line : Nat := 1000000
theorem line_ok {n : Nat} (h : decide (n ≤ line) = true) : n ≤ sizeLine := Nat.le_trans (of_decide_eq_true h) (by decide)
def addStr : Op2 := fun x y s => match x, y with
  | .str i, .str j => if decide (i.length + j.length ≤ line) then .ok (.str (i ++ j)) s else .bad
  | _, _ => .bad
theorem jo_addStr : JO X (binaryOp .Add) addStr := ⟨_, op_add_str, fun x y d e α H s Q S R1 R2 h => by
  cases d with
  | str i =>
    cases e with
    | str j =>
      cases R1
      cases R2
      have h' : PV X.K (Rep X.K) α H (if decide (i.length + j.length ≤ line) then .ok (.str (i ++ j)) s else .bad) Q := h
      cases hc : decide (i.length + j.length ≤ line) with
      | true =>
        rw [hc, if_pos rfl] at h'
        exact ⟨i, j, rfl, rfl, line_ok hc, h'.here S rfl⟩
      | false =>
        rw [hc, if_neg Bool.false_ne_true] at h'
        exact h'.elim
    | _ => exact h.elim
  | _ => exact h.elim⟩
def addTup : Op2 := fun x y s => match x, y with
  | .tup i, .tup j => if decide (i.length + j.length ≤ line) then .ok (.tup (i ++ j)) s else .bad
  | _, _ => .bad
theorem jo_addTup : JO X (binaryOp .Add) addTup := ⟨_, op_catA, fun x y d e α H s Q S R1 R2 h => by
  cases d with
  | tup i =>
    cases e with
    | tup j =>
      obtain ⟨a, vs, rfl, hA, rA⟩ := R1
      obtain ⟨b, us, rfl, hB, rB⟩ := R2
      have h' : PV X.K (Rep X.K) α H (if decide (i.length + j.length ≤ line) then .ok (.tup (i ++ j)) s else .bad) Q := h
      cases hc : decide (i.length + j.length ≤ line) with
      | true =>
        rw [hc, if_pos rfl] at h'
        refine ⟨a, b, vs, us, rfl, rfl, hA, hB, by rw [rA.length, rB.length]; exact line_ok hc, fun e => ?_, fun _ e => ?_, fun _ _ p hp => ?_⟩
        · refine h'.here S ⟨b, us, rfl, hB, ?_⟩
          have := RepL.append rA rB
          rw [e] at this
          exact this
        · refine h'.here S ⟨a, vs, rfl, hA, ?_⟩
          have := RepL.append rA rB
          rw [e, List.append_nil] at this
          exact this
        · exact h' _ α _ (Le.new hp) (S.new hp) ⟨p, _, rfl, SqT.of upd_same, (RepL.append rA rB).mono (Le.new hp)⟩
      | false =>
        rw [hc, if_neg Bool.false_ne_true] at h'
        exact h'.elim
    | _ => exact h.elim
  | _ => exact h.elim⟩
/-- a new object behind the store -/
def newO (o : O) (s : Sto) : Res D := .ok (.ref s.length) (s ++ [o])
theorem new_lst {p : Addr} {ds : List D} {vs : List V} (S : SOk K α H s) (hp : H p = none) (r : RepL K α H ds vs) {Q : V → Hp → Prop} (h : PV K (Rep K) α H (newO (.lst ds) s) Q) : Q (.ref p) (upd H p (.lst vs)) := by
  obtain ⟨S1, l1⟩ := S.alloc (o := .lst ds) (u := .lst vs) hp fun α' H' l q => ⟨vs, q, r.mono l⟩
  refine h _ _ _ l1 S1 ⟨p, ?_, rfl⟩
  rw [← S.len, List.getElem?_append_right (Nat.le_refl _), Nat.sub_self]
  rfl
def lst? (s : Sto) (n : Nat) : Option (List D) := match s[n]? with
  | some (.lst l) => some l
  | _ => none
theorem SOk.lst {n : Nat} {l : List D} (S : SOk K α H s) (h : lst? s n = some l) {v : V} (r : Rep K α H (.ref n) v) : ∃ a vs, v = .ref a ∧ α[n]? = some a ∧ s[n]? = some (.lst l) ∧ H a = some (.lst vs) ∧ RepL K α H l vs := by
  unfold lst? at h
  cases e : s[n]? with
  | none => rw [e] at h; cases h
  | some o =>
    rw [e] at h
    cases o with
    | lst l' =>
      cases h
      obtain ⟨a, h1, h2⟩ := S.at_ n _ e
      obtain ⟨b, g1, g2⟩ := r
      rw [h1] at g1
      cases g1
      obtain ⟨vs, q1, q2⟩ := h2
      exact ⟨_, vs, g2, h1, rfl, q1, q2⟩
    | _ => cases h
/-- a list that may be read: the script too -/
def seq? (s : Sto) (n : Nat) : Option (List D) := match s[n]? with
  | some (.lst l) => some l
  | some (.scr l) => some l
  | _ => none
theorem SOk.seq {n : Nat} {l : List D} (S : SOk K α H s) (h : seq? s n = some l) {v : V} (r : Rep K α H (.ref n) v) : ∃ a vs, v = .ref a ∧ SqL K H a vs ∧ RepL K α H l vs := by
  unfold seq? at h
  cases e : s[n]? with
  | none => rw [e] at h; cases h
  | some o =>
    rw [e] at h
    obtain ⟨a, h1, h2⟩ := S.at_ n _ e
    obtain ⟨b, g1, g2⟩ := r
    rw [h1] at g1
    cases g1
    cases o with
    | lst l' =>
      cases h
      obtain ⟨vs, q1, q2⟩ := h2
      exact ⟨_, vs, g2, SqL.of q1, q2⟩
    | scr l' =>
      cases h
      obtain ⟨vs, q1, q2⟩ := h2
      refine ⟨_, vs, g2, ?_, q2⟩
      rcases q1 with ⟨o, q1⟩ | q1
      · exact .inl (.inr ⟨o, q1⟩)
      · exact .inr q1
    | _ => cases h
def addLst : Op2 := fun x y s => match x, y with
  | .ref m, .ref n => (match seq? s m, seq? s n with
    | some a, some b => if decide (a.length + b.length ≤ line) then newO (.lst (a ++ b)) s else .bad
    | _, _ => .bad)
  | _, _ => .bad
/-- two lists, locked or written ones too -/
def rCatL (K : PySem.W.Frag) : R2 := fun x y H Q => ∃ l b xs zs, x = .ref l ∧ y = .ref b ∧ SqL K H l xs ∧ SqL K H b zs ∧ xs.length + zs.length ≤ sizeLine ∧ ∀ p, H p = none → Q (.ref p) (upd H p (.lst (xs ++ zs)))
theorem op_catL : OpR X (binaryOp .Add) (rCatL X.K) := by
  intro pins sh σ H x y v u Q I rx ry h
  obtain ⟨l, b, xs, zs, rfl, rfl, hl, hb, hz, q⟩ := h
  cases rx
  cases ry
  obtain ⟨its, r, ⟨⟨c1, d1, t1, sl1⟩, n1, o1, e1, e2, e3⟩, _⟩ := I.list hl
  obtain ⟨its2, r2, ⟨⟨c2, d2, t2, sl2⟩, n2, o2, f1, f2, f3⟩, _⟩ := I.list hb
  dsimp only at e1 e2 e3 f1 f2 f3
  subst e1 e2 e3 f1 f2 f3
  have hlen : its.toArray.size + its2.toArray.size ≤ sizeLine := by
    rw [List.size_toArray, List.size_toArray, ← r.length, ← r2.length]
    exact hz
  refine concat_meets ⟨_, o1, rfl⟩ ⟨_, o2, rfl⟩ noFill_list_add seq_list_add PySem.F.slot_list_add PySem.F.entry_list_add (PySem.F.args_list_add_2 _ _) (PyProof.Rows.list_addW l b its.toArray its2.toArray n1 n2 none none sl1 sl2 hlen) ⟨o1, o2, ?_⟩
  have ea : its.toArray ++ its2.toArray = (its ++ its2).toArray := by simp
  rw [ea]
  exact ⟨.ref _, _, I.lnew (t' := sh.toks) (r.append r2) (by rw [List.length_append]; exact hz), rfl, q _ I.fresh⟩
theorem jo_addLst : JO X (binaryOp .Add) addLst := ⟨_, op_catL, fun x y d e α H s Q S R1 R2 h => by
  unfold addLst at h
  split at h
  · next m n =>
    split at h
    · next a b ea eb =>
      split at h
      · next hc =>
        obtain ⟨p, vs, rfl, hp, rp⟩ := S.seq ea R1
        obtain ⟨q, us, rfl, hq, rq⟩ := S.seq eb R2
        exact ⟨p, q, vs, us, rfl, rfl, hp, hq, by rw [rp.length, rq.length]; exact line_ok hc, fun z hz => new_lst S hz (rp.append rq) h⟩
      · exact h.elim
    · exact h.elim
  · exact h.elim⟩
def addD : Op2 := op2or (iOp0 fun i j => .int (i + j)) (op2or addStr (op2or addLst addTup))
theorem jo_add : JO X (binaryOp .Add) addD := (jo_i0 (gD := fun i j => .int (i + j)) op_add fun _ _ _ _ => rfl).or (jo_addStr.or (jo_addLst.or jo_addTup))
def subD : Op2 := iOp0 fun i j => .int (i - j)
theorem jo_sub : JO X (binaryOp .Sub) subD := jo_i0 op_sub fun _ _ _ _ => rfl
/-- a product: one of them below 2 ^ 64, or together some million bits at most -/
@[irreducible] def cMul (i j : Int) : Bool := (decide (-18446744073709551616 < j) && decide (j < 18446744073709551616)) || ((decide (-18446744073709551616 < i) && decide (i < 18446744073709551616)) || decide (i.natAbs.log2 + j.natAbs.log2 < 1000000))
def mulI : Op2 := iOp cMul fun i j => .int (i * j)
/-- a text some times -/
def mulS : Op2 := fun x y s => match x, y with
  | .str z, .int n => if decide (0 ≤ n) && (decide (n ≤ 1000) && decide (z.length ≤ 1000)) then .ok (.str (Txt.mul z n)) s else .bad
  | _, _ => .bad
/-- a list some times -/
def mulL : Op2 := fun x y s => match x, y with
  | .ref m, .int n => (match lst? s m with
    | some l => if decide (0 ≤ n) && (decide (n ≤ 100000) && decide (l.length * n.toNat ≤ line)) then newO (.lst (List.replicate n.toNat l).flatten) s else .bad
    | none => .bad)
  | _, _ => .bad
def mulD : Op2 := op2or mulI (op2or mulS mulL)
theorem op_mulS : OpR X (binaryOp .Mult) (fun x y H Q => ∃ i j, x = .str i ∧ y = .int j ∧ MulOk i j ∧ Q (.str (Txt.mul i j)) H) := by
  intro pins s σ H x y v u Q I rx ry h
  obtain ⟨i, j, rfl, rfl, hz, q⟩ := h
  obtain ⟨t, rfl⟩ := rx
  obtain ⟨t', rfl⟩ := ry
  exact SB.mul hz (fun t' tk => ⟨.str (Txt.mul i j), H, I.tok _, ⟨_, rfl⟩, q⟩)
theorem mulOk_of {z : Str} {n : Int} (h0 : 0 ≤ n) (h1 : n ≤ 1000) (h2 : z.length ≤ 1000) : MulOk z n := by
  refine ⟨by rw [decide_eq_false (by omega), decide_eq_false (by omega)]; rfl, fun h _ => ?_, fun h _ => ?_⟩
  · have h3 : (1000 : Int) ≤ (2 ^ 63 - 1) / n := by
      rw [Int.le_ediv_iff_mul_le (by omega)]
      omega
    omega
  · obtain ⟨m, rfl⟩ := Int.eq_ofNat_of_zero_le h0
    have h4 : z.length * m ≤ 1000 * 1000 := Nat.mul_le_mul h2 (by omega)
    unfold Builtin.Str.tooLong
    exact decide_eq_false (by rw [Int.toNat_natCast]; exact Nat.not_lt.mpr (Nat.le_trans h4 (by decide)))
theorem jo_mulS : JO X (binaryOp .Mult) mulS := ⟨_, op_mulS, fun x y d e α H s Q S R1 R2 h => by
  unfold mulS at h
  split at h
  · cases R1
    cases R2
    split at h
    · next c =>
      obtain ⟨c1, c2⟩ := Bool.and_eq_true_iff.mp c
      obtain ⟨c2, c3⟩ := Bool.and_eq_true_iff.mp c2
      exact ⟨_, _, rfl, rfl, mulOk_of (of_decide_eq_true c1) (of_decide_eq_true c2) (of_decide_eq_true c3), PV.here h S rfl⟩
    · exact h.elim
  · exact h.elim⟩
theorem rep_times {ds : List D} {vs : List V} (r : RepL K α H ds vs) : ∀ n : Nat, RepL K α H (List.replicate n ds).flatten (List.replicate n vs).flatten
  | 0 => rfl
  | n + 1 => by
    rw [List.replicate_succ, List.replicate_succ, List.flatten_cons, List.flatten_cons]
    exact r.append (rep_times r n)
theorem jo_mulL : JO X (binaryOp .Mult) mulL := ⟨_, op_rep, fun x y d e α H s Q S R1 R2 h => by
  unfold mulL at h
  split at h
  · next m n =>
    cases R2
    split at h
    · next l el =>
      split at h
      · next c =>
        obtain ⟨c1, c2⟩ := Bool.and_eq_true_iff.mp c
        obtain ⟨c2, c3⟩ := Bool.and_eq_true_iff.mp c2
        have c1' := of_decide_eq_true c1
        have c2' := of_decide_eq_true c2
        obtain ⟨p, vs, rfl, _, _, hp, rp⟩ := S.lst el R1
        exact ⟨p, n, vs, rfl, rfl, hp, by omega, by omega, by rw [rp.length]; exact line_ok c3, fun z hz => new_lst S hz (rep_times rp n.toNat) h⟩
      · exact h.elim
    · exact h.elim
  · exact h.elim⟩
theorem op_mulA : OpR X (binaryOp .Mult) (rI (fun i j => cMul i j = true) fun i j => .int (i * j)) := opI fun i j _ _ _ _ _ hc q => by
  have hc : cMul i j = true := hc
  unfold cMul at hc
  rcases (Bool.or_eq_true _ _).mp hc with h | h
  · obtain ⟨h1, h2⟩ := Bool.and_eq_true_iff.mp h
    exact PyProof.Rows.mul_int q (CMul.ok (.inr ⟨of_decide_eq_true h1, of_decide_eq_true h2⟩))
  · rcases (Bool.or_eq_true _ _).mp h with h | h
    · obtain ⟨h1, h2⟩ := Bool.and_eq_true_iff.mp h
      exact PyProof.Rows.mul_int q (CMul.ok (.inl ⟨of_decide_eq_true h1, of_decide_eq_true h2⟩))
    · exact PyProof.Rows.mul_int q (CMulW.ok (i := i) (j := j) (of_decide_eq_true h : i.natAbs.log2 + j.natAbs.log2 < 1000000))
theorem jo_mul : JO X (binaryOp .Mult) mulD := (jo_i (gD := fun i j => .int (i * j)) op_mulA (fun i j h => h) fun _ _ _ _ => rfl).or (jo_mulS.or jo_mulL)
def fdivD : Op2 := iOp (fun _ j => decide (0 < j) && decide (j.natAbs.log2 < 9000)) fun i j => .int (i / j)
theorem jo_fdiv : JO X (binaryOp .FloorDiv) fdivD := jo_i op_fdivW (fun i j h => by
  obtain ⟨h1, h2⟩ := Bool.and_eq_true_iff.mp h
  exact ⟨of_decide_eq_true h1, of_decide_eq_true h2⟩) fun _ _ _ _ => rfl
def modD : Op2 := iOp (fun _ j => decide (0 < j)) fun i j => .int (i % j)
theorem jo_mod : JO X (binaryOp .Mod) modD := jo_i op_mod (fun i j h => (of_decide_eq_true h : 0 < j)) fun _ _ _ _ => rfl
@[irreducible] def cPow (i j : Int) : Bool := decide (0 ≤ j) && (decide (j ≤ 1000000) && decide (i.natAbs < 2 ^ 64))
theorem cPow_ok {i j : Int} (h : cPow i j = true) : CPow i j := by
  unfold cPow at h
  obtain ⟨h1, h2⟩ := Bool.and_eq_true_iff.mp h
  obtain ⟨h2, h3⟩ := Bool.and_eq_true_iff.mp h2
  exact ⟨of_decide_eq_true h1, of_decide_eq_true h2, of_decide_eq_true h3⟩
def powD : Op2 := iOp cPow fun i j => .int (i ^ j.toNat)
theorem jo_pow : JO X (binaryOp .Pow) powD := jo_i op_pow (fun _ _ h => cPow_ok h) fun _ _ _ _ => rfl
def shlD : Op2 := iOp cPow fun i j => .int (i * 2 ^ j.toNat)
def shrD : Op2 := iOp (fun _ j => decide (0 ≤ j)) fun i j => .int (i / 2 ^ j.toNat)
def bandD : Op2 := iOp0 fun i j => .int (Builtin.bitAnd i j)
def borD : Op2 := iOp0 fun i j => .int (Builtin.bitOr i j)
def bxorD : Op2 := iOp0 fun i j => .int (Builtin.bitXor i j)
def ltD : Op2 := iOp0 fun i j => .bl (decide (i < j))
def leD : Op2 := iOp0 fun i j => .bl (decide (i ≤ j))
def gtD : Op2 := iOp0 fun i j => .bl (decide (j < i))
def geD : Op2 := iOp0 fun i j => .bl (decide (j ≤ i))
/-! is None -/
def isNon : D → Bool
  | .non => true
  | _ => false
def isND : Op2 := fun x y s => match y, x with
  | .non, x => .ok (.bl (isNon x)) s
  | .bl b, .bl a => .ok (.bl (decide (a = b))) s
  | _, _ => .bad
def notND : Op2 := fun x y s => match y, x with
  | .non, x => .ok (.bl (!isNon x)) s
  | .bl b, .bl a => .ok (.bl (!decide (a = b))) s
  | _, _ => .bad
end
end PD

/-! Pd2: equality, membership, tests, subscripts, slices, displays. -/
namespace PD
open PySem L2

/-! ### == -/
def optAll {β : Type} : List (Option β) → Option (List β)
  | [] => some []
  | some a :: r => (optAll r).map (a :: ·)
  | none :: _ => none
/-- what a thing is, as data (lists too), down to a depth -/
def pyOf (s : Sto) : Nat → D → Option PyData
  | _, .non => some .none
  | _, .bl b => some (.bool b)
  | _, .int i => some (.int i)
  | _, .str x => some (.str x)
  | _, .hot _ _ => none
  | 0, _ => none
  | n + 1, .tup l => (optAll (l.map (pyOf s n))).map .tuple
  | n + 1, .ref m => (match seq? s m with
    | some l => (optAll (l.map (pyOf s n))).map .list
    | none => none)
section
variable {X : Cx} {W : WX} {K : PySem.W.Frag} {α α' α1 α2 : List Addr} {H H' H1 H2 : Hp} {s s' s1 s2 : Sto} {ρ ρ' : En} {σ σ' : L2.St}
theorem dpAll_of {n : Nat} (ih : ∀ d p v, pyOf s n d = some p → Rep K α H d v → Dp K H v p) : ∀ {l : List D} {ps : List PyData} {vs : List V}, optAll (l.map (pyOf s n)) = some ps → RepL K α H l vs → DpAll K H vs ps
  | [], ps, vs, h, r => by
    cases h
    rw [show vs = [] from r]
    exact .nil
  | d :: l, ps, vs, h, r => by
    obtain ⟨v, r', e1, r1, r2⟩ := r
    rw [e1]
    have h' : optAll (pyOf s n d :: l.map (pyOf s n)) = some ps := h
    cases e : pyOf s n d with
    | none => rw [e] at h'; cases h'
    | some p =>
      rw [e] at h'
      have h2 : (optAll (l.map (pyOf s n))).map (p :: ·) = some ps := h'
      cases e2 : optAll (l.map (pyOf s n)) with
      | none => rw [e2] at h2; cases h2
      | some q =>
        rw [e2] at h2
        cases h2
        exact .cons (ih _ _ _ e r1) (dpAll_of ih e2 r2)
theorem dp_of (S : SOk K α H s) : ∀ (n : Nat) (d : D) (p : PyData) (v : V), pyOf s n d = some p → Rep K α H d v → Dp K H v p := by
  intro n
  induction n with
  | zero =>
    intro d p v h r
    cases d with
    | non => cases h; cases r; exact .non
    | bl b => cases h; cases r; exact .bl b
    | int i => cases h; cases r; exact .int i
    | str x => cases h; cases r; exact .str x
    | tup l => cases h
    | ref m => cases h
    | hot a dn => cases h
  | succ n ih =>
    intro d p v h r
    cases d with
    | non => cases h; cases r; exact .non
    | bl b => cases h; cases r; exact .bl b
    | int i => cases h; cases r; exact .int i
    | str x => cases h; cases r; exact .str x
    | tup l =>
      have h' : (optAll (l.map (pyOf s n))).map PyData.tuple = some p := h
      obtain ⟨ps, e1, e2⟩ := Option.map_eq_some_iff.mp h'
      obtain ⟨a, vs, rfl, hT, rl⟩ := r
      subst e2
      exact .tup hT (dpAll_of ih e1 rl)
    | hot a dn => cases h
    | ref m =>
      have h' : (match seq? s m with | some l => (optAll (l.map (pyOf s n))).map PyData.list | none => none) = some p := h
      cases e : seq? s m with
      | none => rw [e] at h'; cases h'
      | some l =>
        rw [e] at h'
        obtain ⟨ps, e1, e2⟩ := Option.map_eq_some_iff.mp (show (optAll (l.map (pyOf s n))).map PyData.list = some p from h')
        obtain ⟨a, vs, rfl, hL, rl⟩ := S.seq e r
        subst e2
        exact .lst hL (dpAll_of ih e1 rl)
/-- the scalars that == tells apart -/
def eqS? : D → D → Option Bool
  | .int i, .int j => some (decide (i = j))
  | .str x, .str y => some (decide (x = y))
  | .bl a, .bl b => some (decide (a = b))
  | .non, .non => some true
  | .non, .int _ => some false
  | .int _, .non => some false
  | .non, .bl _ => some false
  | .bl _, .non => some false
  | .non, .str _ => some false
  | .str _, .non => some false
  | .int _, .str _ => some false
  | .str _, .int _ => some false
  | .bl _, .str _ => some false
  | .str _, .bl _ => some false
  | _, _ => none
theorem eqS_rep {d e : D} {x y : V} {b : Bool} (h : eqS? d e = some b) (r1 : Rep K α H d x) (r2 : Rep K α H e y) : scal x y = true ∧ decide (x = y) = b := by
  cases d <;> cases e <;> first
    | (cases h; cases r1; cases r2; exact ⟨rfl, by simp⟩)
    | cases h
def eqS (neg : Bool) : Op2 := fun x y s => match eqS? x y with
  | some b => .ok (.bl (if neg then !b else b)) s
  | none => .bad
theorem jo_eqS : JO X (compareOp .Eq) (eqS false) := ⟨_, op_eq, fun x y d e α H s Q S R1 R2 h => by
  unfold eqS at h
  cases q : eqS? d e with
  | none => rw [q] at h; exact h.elim
  | some b =>
    rw [q] at h
    obtain ⟨h1, h2⟩ := eqS_rep q R1 R2
    refine ⟨h1, ?_⟩
    rw [h2]
    exact PV.here h S rfl⟩
theorem jo_neS : JO X (compareOp .NotEq) (eqS true) := ⟨_, op_ne, fun x y d e α H s Q S R1 R2 h => by
  unfold eqS at h
  cases q : eqS? d e with
  | none => rw [q] at h; exact h.elim
  | some b =>
    rw [q] at h
    obtain ⟨h1, h2⟩ := eqS_rep q R1 R2
    refine ⟨h1, ?_⟩
    rw [h2]
    exact PV.here h S rfl⟩
/-- data of any kind, sixty deep -/
def eqG? (s : Sto) (x y : D) : Option Bool := match pyOf s 60 x, pyOf s 60 y with
  | some p, some q => if SeqAt.shaped p && SeqAt.shaped q then some (PyData.eqv p q) else none
  | _, _ => none
theorem eqG_rep {d e : D} {x y : V} {b : Bool} (S : SOk K α H s) (h : eqG? s d e = some b) (r1 : Rep K α H d x) (r2 : Rep K α H e y) : ∃ p q, Dp K H x p ∧ Dp K H y q ∧ SeqAt.shaped p = true ∧ SeqAt.shaped q = true ∧ PyData.eqv p q = b := by
  unfold eqG? at h
  cases e1 : pyOf s 60 d with
  | none => rw [e1] at h; cases h
  | some p =>
    cases e2 : pyOf s 60 e with
    | none => rw [e1, e2] at h; cases h
    | some q =>
      rw [e1, e2] at h
      have h' : (if SeqAt.shaped p && SeqAt.shaped q then some (PyData.eqv p q) else none) = some b := h
      cases c : (SeqAt.shaped p && SeqAt.shaped q) with
      | false => rw [c] at h'; cases h'
      | true =>
        rw [c, if_pos rfl] at h'
        obtain ⟨c1, c2⟩ := Bool.and_eq_true_iff.mp c
        exact ⟨p, q, dp_of S _ _ _ _ e1 r1, dp_of S _ _ _ _ e2 r2, c1, c2, Option.some.inj h'⟩
def eqG (neg : Bool) : Op2 := fun x y s => match eqG? s x y with
  | some b => .ok (.bl (if neg then !b else b)) s
  | none => .bad
theorem jo_eqG (hu : X.A.units + 64 < cLine) : JO X (compareOp .Eq) (eqG false) := ⟨_, op_eqD hu, fun x y d e α H s Q S R1 R2 h => by
  unfold eqG at h
  cases q : eqG? s d e with
  | none => rw [q] at h; exact h.elim
  | some b =>
    rw [q] at h
    obtain ⟨p, p', h1, h2, h3, h4, h5⟩ := eqG_rep S q R1 R2
    refine ⟨p, p', h1, h2, h3, h4, ?_⟩
    rw [h5]
    exact PV.here h S rfl⟩
theorem jo_neG (hu : X.A.units + 64 < cLine) : JO X (compareOp .NotEq) (eqG true) := ⟨_, op_neD hu, fun x y d e α H s Q S R1 R2 h => by
  unfold eqG at h
  cases q : eqG? s d e with
  | none => rw [q] at h; exact h.elim
  | some b =>
    rw [q] at h
    obtain ⟨p, p', h1, h2, h3, h4, h5⟩ := eqG_rep S q R1 R2
    refine ⟨p, p', h1, h2, h3, h4, ?_⟩
    rw [h5]
    exact PV.here h S rfl⟩
def eqD : Op2 := op2or (eqS false) (eqG false)
def neD : Op2 := op2or (eqS true) (eqG true)
theorem jo_eq {k : Nat} (hr : Room k X.A) : JO X (compareOp .Eq) eqD := jo_eqS.or (jo_eqG hr.units)
theorem jo_ne {k : Nat} (hr : Room k X.A) : JO X (compareOp .NotEq) neD := jo_neS.or (jo_neG hr.units)

/-! ### in -/
/-- the items of a list or a tuple -/
def items? (s : Sto) : D → Option (List D)
  | .ref m => seq? s m
  | .tup l => some l
  | _ => none
theorem items_rep {d : D} {l : List D} (S : SOk K α H s) (h : items? s d = some l) {v : V} (r : Rep K α H d v) : ∃ a vs, v = .ref a ∧ (SqL K H a vs ∨ SqT K H a vs) ∧ RepL K α H l vs := by
  cases d with
  | ref m =>
    obtain ⟨a, vs, e, h1, h2⟩ := S.seq h r
    exact ⟨a, vs, e, .inl h1, h2⟩
  | tup m =>
    cases h
    obtain ⟨a, vs, e, h1, h2⟩ := r
    exact ⟨a, vs, e, .inr h1, h2⟩
  | _ => cases h
/-! dicts: keys are ints and texts -/
def key? : D → Option Key
  | .int i => some (.inl i)
  | .str x => some (.inr x)
  | _ => none
theorem key_rep {d : D} {k : Key} {v : V} (h : key? d = some k) (r : Rep K α H d v) : v = kV k := by
  cases d with
  | int i => cases h; exact r
  | str x => cases h; exact r
  | _ => cases h
def valD {κ : Type} [DecidableEq κ] (kvs : List (κ × D)) (k : κ) : Option D := (kvs.find? fun kv => decide (kv.1 = k)).map (·.2)
def putD {κ : Type} [DecidableEq κ] (kvs : List (κ × D)) (k : κ) (v : D) : List (κ × D) :=
  if (kvs.any fun kv => decide (kv.1 = k)) = true then kvs.map (fun kv => if kv.1 = k then (kv.1, v) else kv) else kvs ++ [(k, v)]
def dropD {κ : Type} [DecidableEq κ] (kvs : List (κ × D)) (k : κ) : List (κ × D) := kvs.filter fun kv => decide (kv.1 ≠ k)
theorem RepF.cons {κ : Type} {k : κ} {d : D} {v : V} {l : List (κ × D)} {m : List (κ × V)} (r : Rep K α H d v) (h : RepF K α H l m) : RepF K α H ((k, d) :: l) ((k, v) :: m) := ⟨congrArg (k :: ·) h.1, .cons r h.2⟩
theorem RepF.cases_ {κ : Type} {k : κ} {d : D} {l : List (κ × D)} {m : List (κ × V)} (h : RepF K α H ((k, d) :: l) m) : ∃ v m', m = (k, v) :: m' ∧ Rep K α H d v ∧ RepF K α H l m' := by
  obtain ⟨h1, h2⟩ := h
  cases m with
  | nil => cases h1
  | cons q m =>
    obtain ⟨k', v⟩ := q
    have e : k' :: m.map (·.1) = k :: l.map (·.1) := h1
    injection e with e1 e2
    obtain ⟨v', r', e3, r1, r2⟩ := h2
    have e4 : v :: m.map (·.2) = v' :: r' := e3
    injection e4 with e5 e6
    subst e1 e5
    exact ⟨v, m, rfl, r1, e2, by rw [e6]; exact r2⟩
theorem RepF.nil_ {κ : Type} {m : List (κ × V)} (h : RepF K α H ([] : List (κ × D)) m) : m = [] := by
  have h1 : m.map (·.1) = [] := h.1
  exact List.map_eq_nil_iff.mp h1
section
variable {κ : Type} [DecidableEq κ]
theorem RepF.val : ∀ {l : List (κ × D)} {m : List (κ × V)} {k : κ}, RepF K α H l m → (∀ d, valD l k = some d → ∃ v, valV m k = some v ∧ Rep K α H d v) ∧ (valD l k = none → valV m k = none)
  | [], m, k, h => by
    rw [h.nil_]
    exact ⟨fun d e => (by cases e), fun _ => rfl⟩
  | (j, d) :: l, m, k, h => by
    obtain ⟨v, m', rfl, r, h'⟩ := h.cases_
    obtain ⟨a, b⟩ := RepF.val (k := k) h'
    by_cases e : j = k
    · have e1 : valD ((j, d) :: l) k = some d := by unfold valD; rw [List.find?_cons_of_pos (by simpa using e)]; rfl
      have e2 : valV ((j, v) :: m') k = some v := valV_pos e
      rw [e1, e2]
      exact ⟨fun d' q => (by cases q; exact ⟨v, rfl, r⟩), fun q => (by cases q)⟩
    · have e1 : valD ((j, d) :: l) k = valD l k := by unfold valD; rw [List.find?_cons_of_neg (by simpa using e)]
      have e2 : valV ((j, v) :: m') k = valV m' k := valV_neg e
      rw [e1, e2]
      exact ⟨a, b⟩
theorem RepF.any : ∀ {l : List (κ × D)} {m : List (κ × V)} {k : κ}, RepF K α H l m → (m.any fun kv => decide (kv.1 = k)) = (l.any fun kv => decide (kv.1 = k))
  | [], m, k, h => by rw [h.nil_]; rfl
  | (j, d) :: l, m, k, h => by
    obtain ⟨v, m', rfl, r, h'⟩ := h.cases_
    show (decide (j = k) || _) = (decide (j = k) || _)
    rw [RepF.any h']
theorem RepF.repl : ∀ {l : List (κ × D)} {m : List (κ × V)} {k : κ} {d : D} {v : V}, RepF K α H l m → Rep K α H d v → RepF K α H (l.map fun kv => if kv.1 = k then (kv.1, d) else kv) (m.map fun kv => if kv.1 = k then (kv.1, v) else kv)
  | [], m, k, d, v, h, r => by rw [h.nil_]; exact ⟨rfl, rfl⟩
  | (j, e) :: l, m, k, d, v, h, r => by
    obtain ⟨u, m', rfl, r', h'⟩ := h.cases_
    have ih := RepF.repl (k := k) h' r
    show RepF K α H ((if j = k then (j, d) else (j, e)) :: _) ((if j = k then (j, v) else (j, u)) :: _)
    by_cases q : j = k
    · rw [if_pos q, if_pos q]
      exact ih.cons r
    · rw [if_neg q, if_neg q]
      exact ih.cons r'
theorem RepF.snoc {l : List (κ × D)} {m : List (κ × V)} {k : κ} {d : D} {v : V} (h : RepF K α H l m) (r : Rep K α H d v) : RepF K α H (l ++ [(k, d)]) (m ++ [(k, v)]) := by
  refine ⟨by rw [List.map_append, List.map_append, h.1]; rfl, ?_⟩
  rw [List.map_append, List.map_append]
  exact h.2.append (.cons r rfl)
theorem RepF.put {l : List (κ × D)} {m : List (κ × V)} {k : κ} {d : D} {v : V} (h : RepF K α H l m) (r : Rep K α H d v) : RepF K α H (putD l k d) (putK m k v) := by
  unfold putD putK
  rw [h.any]
  split
  · exact h.repl r
  · exact h.snoc r
theorem RepF.len {l : List (κ × D)} {m : List (κ × V)} (h : RepF K α H l m) : m.length = l.length := by
  have := congrArg List.length h.1
  rw [List.length_map, List.length_map] at this
  exact this
end
/-- a dict that may be read -/
def dk? (s : Sto) (n : Nat) : Option (List (Key × D)) := match s[n]? with
  | some (.dk l) => some l
  | some (.lk l) => some l
  | _ => none
/-- a dict that may be changed -/
def dw? (s : Sto) (n : Nat) : Option (List (Key × D)) := match s[n]? with
  | some (.dk l) => some l
  | _ => none
theorem SOk.dk {n : Nat} {l : List (Key × D)} (S : SOk K α H s) (h : dk? s n = some l) {v : V} (r : Rep K α H (.ref n) v) : ∃ a kv, v = .ref a ∧ α[n]? = some a ∧ True ∧ Rd H a (.dK kv) ∧ RepF K α H l kv := by
  unfold dk? at h
  cases e : s[n]? with
  | none => rw [e] at h; cases h
  | some o =>
    rw [e] at h
    cases o with
    | dk l' =>
      cases h
      obtain ⟨a, h1, h2⟩ := S.at_ n _ e
      obtain ⟨b, g1, g2⟩ := r
      rw [h1] at g1
      cases g1
      obtain ⟨kv, q1, q2⟩ := h2
      exact ⟨_, kv, g2, h1, trivial, .inl q1, q2⟩
    | lk l' =>
      cases h
      obtain ⟨a, h1, h2⟩ := S.at_ n _ e
      obtain ⟨b, g1, g2⟩ := r
      rw [h1] at g1
      cases g1
      obtain ⟨kv, ob, q1, q2⟩ := h2
      exact ⟨_, kv, g2, h1, trivial, .inr ⟨ob, q1⟩, q2⟩
    | _ => cases h
theorem SOk.dw {n : Nat} {l : List (Key × D)} (S : SOk K α H s) (h : dw? s n = some l) {v : V} (r : Rep K α H (.ref n) v) : ∃ a kv, v = .ref a ∧ α[n]? = some a ∧ s[n]? = some (.dk l) ∧ H a = some (.dK kv) ∧ RepF K α H l kv := by
  unfold dw? at h
  cases e : s[n]? with
  | none => rw [e] at h; cases h
  | some o =>
    rw [e] at h
    cases o with
    | dk l' =>
      cases h
      obtain ⟨a, h1, h2⟩ := S.at_ n _ e
      obtain ⟨b, g1, g2⟩ := r
      rw [h1] at g1
      cases g1
      obtain ⟨kv, q1, q2⟩ := h2
      exact ⟨_, kv, g2, h1, rfl, q1, q2⟩
    | _ => cases h
/-! ### tests -/
def tru? (s : Sto) : D → Option Bool
  | .non => some false
  | .bl b => some b
  | .int i => some (i != 0)
  | .str x => if decide (x.length ≤ line) then some ((x.length : Int) != 0) else none
  | .tup l => some (!l.isEmpty)
  | .hot _ _ => none
  | .ref n => (match seq? s n with
    | some l => some (!l.isEmpty)
    | none => (match dw? s n with
      | some l => some (!l.isEmpty)
      | none => none))
theorem tru_rep {d : D} {b : Bool} {v : V} (S : SOk K α H s) (h : tru? s d = some b) (r : Rep K α H d v) : TruV K v H b := by
  cases d with
  | non => cases h; cases r; exact rfl
  | bl c => cases h; cases r; exact rfl
  | int i => cases h; cases r; exact rfl
  | str x =>
    have h' : (if decide (x.length ≤ line) then some ((x.length : Int) != 0) else none) = some b := h
    cases r
    cases c : decide (x.length ≤ line) with
    | false => rw [c] at h'; cases h'
    | true =>
      rw [c, if_pos rfl] at h'
      exact ⟨line_ok c, (Option.some.inj h').symm⟩
  | tup l =>
    cases h
    obtain ⟨a, vs, rfl, hT, rl⟩ := r
    refine .inr (.inl ⟨vs, hT, ?_⟩)
    have := rl.length
    cases l <;> cases vs <;> first | rfl | cases this
  | hot a dn => cases h
  | ref n =>
    have h' : (match seq? s n with
      | some l => some (!l.isEmpty)
      | none => (match dw? s n with
        | some l => some (!l.isEmpty)
        | none => none)) = some b := h
    cases q : seq? s n with
    | some l =>
      rw [q] at h'
      cases h'
      obtain ⟨a, vs, rfl, hL, rl⟩ := S.seq q r
      refine .inl ⟨vs, hL, ?_⟩
      have := rl.length
      cases l <;> cases vs <;> first | rfl | cases this
    | none =>
      rw [q] at h'
      have h2 : (match dw? s n with
        | some l => some (!l.isEmpty)
        | none => none) = some b := h'
      cases q2 : dw? s n with
      | none => rw [q2] at h2; cases h2
      | some l =>
        rw [q2] at h2
        cases h2
        obtain ⟨a, kv, rfl, _, _, ha, rf⟩ := S.dw q2 r
        refine .inr (.inr ⟨kv, ha, ?_⟩)
        have := rf.len
        cases l <;> cases kv <;> first | rfl | cases this
def gT (a : GE) : GT := fun ρ s => (a ρ s).bind fun x s1 => match tru? s1 x with
  | some b => .ok b s1
  | none => .bad
variable {e a b c : Expr} {es rest : List Expr} {ga gb gc : GE} {ta tb : GT} {pos : Pos}
theorem jt_truth (ha : JE X W a ga) (he : ∀ whole, isTrue a X.env whole = (do let v ← whole; standAt a.pos; holding [v] (truthy v)) := by intro _; rfl) : JT X W a (gT ga) := by
  obtain ⟨t, p, q⟩ := ha
  refine ⟨_, pt_truth p he, fun ρ s σ α H Q E S h => q ρ s σ α H _ E S (Post.bind h fun d s1 v α1 H1 l1 S1 R1 h1 => ?_)⟩
  cases z : tru? s1 d with
  | none => rw [z] at h1; exact h1.elim
  | some k =>
    rw [z] at h1
    exact ⟨k, tru_rep S1 z R1, Post.here h1 S1 rfl⟩
def gNot (t : GT) : GT := fun ρ s => (t ρ s).bind fun x s1 => .ok (!x) s1
def gAnd (t u : GT) : GT := fun ρ s => (t ρ s).bind fun x s1 => match x with
  | true => u ρ s1
  | false => .ok false s1
def gOr (t u : GT) : GT := fun ρ s => (t ρ s).bind fun x s1 => match x with
  | true => .ok true s1
  | false => u ρ s1
theorem jt_not (ha : JT X W a ta) : JT X W (.UnaryOp .Not a pos) (gNot ta) := by
  obtain ⟨t, p, q⟩ := ha
  refine ⟨_, pt_not p, fun ρ s σ α H Q E S h => q ρ s σ α H _ E S (Post.bind h fun d s1 v α1 H1 l1 S1 R1 h1 => ?_)⟩
  cases R1
  exact Post.here h1 S1 rfl
theorem jw_or1 (ha : JT X W a ta) : JW X W (.BoolOp .Or [a] pos) ta := by
  obtain ⟨t, p, q⟩ := ha
  exact ⟨t, pw_or1 p, q⟩
theorem ref_or {t u : TT} (qa : RefT K W t ta) (qb : RefT K W u tb) : RefT K W (tOr t u) (gOr ta tb) := fun ρ s σ α H Q E S h => qa ρ s σ α H _ E S (Post.bind h fun d s1 v α1 H1 l1 S1 R1 h1 => by
  cases R1
  cases d with
  | true => exact Post.here h1 S1 rfl
  | false => exact qb ρ s1 σ α1 H1 Q (E.mono l1) S1 h1)
theorem jw_or (ha : JT X W a ta) (hb : JW X W (.BoolOp .Or (b :: rest) pos) tb) : JW X W (.BoolOp .Or (a :: b :: rest) pos) (gOr ta tb) := by
  obtain ⟨t, p, q⟩ := ha
  obtain ⟨u, p', q'⟩ := hb
  exact ⟨_, pw_or p p', ref_or q q'⟩
theorem JW.jt (h : JW X W a ta) : JT X W a ta := by
  obtain ⟨t, p, q⟩ := h
  exact ⟨t, p.pt, q⟩
/-! and, or, not as values: all but the last are truths -/
def gAndV (a b : GE) : GE := fun ρ s => (a ρ s).bind fun x s1 => match x with
  | .bl true => b ρ s1
  | .bl false => .ok (.bl false) s1
  | _ => .bad
def gOrV (a b : GE) : GE := fun ρ s => (a ρ s).bind fun x s1 => match x with
  | .bl true => .ok (.bl true) s1
  | .bl false => b ρ s1
  | _ => .bad
def gNotV (a : GE) : GE := fun ρ s => (a ρ s).bind fun x s1 => match x with
  | .bl b => .ok (.bl (!b)) s1
  | _ => .bad
theorem je_one {op} (h : JE X W a ga) : JE X W (.BoolOp op [a] pos) ga := by
  obtain ⟨t, p, q⟩ := h
  exact ⟨t, pe_one p, q⟩
theorem je_and (ha : JE X W a ga) (hb : JE X W (.BoolOp .And (b :: rest) pos) gb) : JE X W (.BoolOp .And (a :: b :: rest) pos) (gAndV ga gb) := by
  obtain ⟨t, p, q⟩ := ha
  obtain ⟨u, p', q'⟩ := hb
  refine ⟨_, pe_and p p', fun ρ s σ α H Q E S h => q ρ s σ α H _ E S (Post.bind h fun d s1 v α1 H1 l1 S1 R1 h1 => ?_)⟩
  cases d with
  | bl k =>
    cases R1
    refine ⟨k, rfl, ?_⟩
    cases k with
    | true => exact q' ρ s1 σ α1 H1 Q (E.mono l1) S1 h1
    | false => exact Post.here h1 S1 rfl
  | _ => exact h1.elim
theorem je_not (ha : JE X W a ga) : JE X W (.UnaryOp .Not a pos) (gNotV ga) := by
  obtain ⟨t, p, q⟩ := ha
  refine ⟨_, pe_not p, fun ρ s σ α H Q E S h => q ρ s σ α H _ E S (Post.bind h fun d s1 v α1 H1 l1 S1 R1 h1 => ?_)⟩
  cases d with
  | bl k =>
    cases R1
    exact ⟨k, rfl, Post.here h1 S1 rfl⟩
  | _ => exact h1.elim
def gIfE (t : GT) (a b : GE) : GE := fun ρ s => (t ρ s).bind fun x s1 => match x with
  | true => a ρ s1
  | false => b ρ s1
/-! a < b < c -/
def gChain (op op' : Op2) (a b c : GE) : GE := fun ρ s => (a ρ s).bind fun x s1 => (b ρ s1).bind fun y s2 => (quiet op x y s2).bind fun z s3 => match z with
  | .bl true => (c ρ s3).bind fun w s4 => quiet op' y w s4
  | .bl false => .ok (.bl false) s3
  | _ => .bad
end
end PD

/-! Pd3: subscripts, slices, displays, arguments, calls of built-ins and of defs, methods. -/
namespace PD
open PySem L2
section
variable {X : Cx} {W : WX} {K : PySem.W.Frag} {α α' α1 α2 : List Addr} {H H' H1 H2 : Hp} {s s' s1 s2 : Sto} {ρ ρ' : En} {σ σ' : L2.St}
variable {e a b c : Expr} {es rest : List Expr} {ga gb gc : GE} {gl : GA} {pos : Pos}

/-! ### an item -/
theorem RepL.at_ {ds : List D} {vs : List V} {i : Int} {d : D} (r : RepL K α H ds vs) (h : atI ds i = some d) : ∃ v, atI vs i = some v ∧ Rep K α H d v := by
  unfold atI at *
  rw [r.length]
  cases e : ixN ds.length i with
  | none => rw [e] at h; cases h
  | some j =>
    rw [e] at h
    exact r.get (show ds[j]? = some d from h)
def ixSeq : Op2 := fun x y s => match y with
  | .int i => (match items? s x with
    | some l => (match atI l i with
      | some d => .ok d s
      | none => .bad)
    | none => .bad)
  | _ => .bad
def ixTxt : Op2 := fun x y s => match x, y with
  | .str z, .int i => if decide (z.length ≤ line) then (match atI z.cps.toList i with
    | some c => .ok (.str ⟨#[c]⟩) s
    | none => .bad) else .bad
  | _, _ => .bad
def ixDk : Op2 := fun x y s => match x, key? y with
  | .ref n, some k => (match dk? s n with
    | some l => (match valD l k with
      | some d => .ok d s
      | none => .bad)
    | none => .bad)
  | _, _ => .bad
def rDGet : R2 := fun x y H Q => ∃ a v, x = .ref a ∧ DGet H a y (some v) ∧ Q v H
theorem ref_ixDk : RefO K rDGet ixDk := fun x y d e α H s Q S R1 R2 h => by
  unfold ixDk at h
  cases d with
  | ref n =>
    cases q : key? e with
    | none => rw [q] at h; exact h.elim
    | some k =>
      rw [q] at h
      have h1 : PV K (Rep K) α H (match dk? s n with
        | some l => (match valD l k with
          | some d => .ok d s
          | none => .bad)
        | none => .bad) Q := h
      cases q2 : dk? s n with
      | none => rw [q2] at h1; exact h1.elim
      | some l =>
        rw [q2] at h1
        have h2 : PV K (Rep K) α H (match valD l k with
          | some d => .ok d s
          | none => .bad) Q := h1
        cases q3 : valD l k with
        | none => rw [q3] at h2; exact h2.elim
        | some d' =>
          rw [q3] at h2
          obtain ⟨a, kv, rfl, _, _, ha, rf⟩ := S.dk q2 R1
          obtain ⟨v, g1, g2⟩ := rf.val.1 d' q3
          exact ⟨a, v, rfl, .inl ⟨kv, k, ha, key_rep q R2, g1.symm⟩, PV.here h2 S g2⟩
  | _ => exact h.elim
theorem ref_ixS : RefO K (rIx K) (op2or ixSeq ixTxt) := fun x y d e α H s Q S R1 R2 h => by
  rcases PV.or h with h | h
  · unfold ixSeq at h
    cases e with
    | int i =>
      have h1 : PV K (Rep K) α H (match items? s d with
        | some l => (match atI l i with
          | some d => .ok d s
          | none => .bad)
        | none => .bad) Q := h
      cases q : items? s d with
      | none => rw [q] at h1; exact h1.elim
      | some l =>
        rw [q] at h1
        have h2 : PV K (Rep K) α H (match atI l i with
          | some d => .ok d s
          | none => .bad) Q := h1
        cases q2 : atI l i with
        | none => rw [q2] at h2; exact h2.elim
        | some z =>
          rw [q2] at h2
          obtain ⟨a, vs, ey, hs, rl⟩ := items_rep S q R1
          obtain ⟨v, g1, g2⟩ := rl.at_ q2
          cases R2
          rcases hs with hs | hs
          · exact .inl ⟨a, vs, i, v, ey, rfl, hs, g1, PV.here h2 S g2⟩
          · exact .inr (.inl ⟨a, vs, i, v, ey, rfl, hs, g1, PV.here h2 S g2⟩)
    | _ => exact h.elim
  · unfold ixTxt at h
    cases d with
    | str z =>
      cases e with
      | int i =>
        have h1 : PV K (Rep K) α H (if decide (z.length ≤ line) then (match atI z.cps.toList i with
          | some c => .ok (.str ⟨#[c]⟩) s
          | none => .bad) else .bad) Q := h
        cases c : decide (z.length ≤ line) with
        | false => rw [c] at h1; exact h1.elim
        | true =>
          rw [c, if_pos rfl] at h1
          cases q2 : atI z.cps.toList i with
          | none => rw [q2] at h1; exact h1.elim
          | some k =>
            rw [q2] at h1
            cases R1
            cases R2
            exact .inr (.inr ⟨z, i, k, rfl, rfl, line_ok c, q2, PV.here h1 S rfl⟩)
      | _ => exact h.elim
    | _ => exact h.elim
def ixD : Op2 := op2or (op2or ixSeq ixTxt) ixDk
/-- two readings of one expression -/
theorem PE.or {t t' : TE} (h : PE X e t) (h' : PE X e t') : PE X e (fun σ H Q => t σ H Q ∨ t' σ H Q) := ⟨fun pins s σ H Q I q => q.elim (h.run pins s σ H Q I) (h'.run pins s σ H Q I)⟩
theorem ref_or2 {ta tb : TE} {r r' : R2} {f g : Op2} (qa : RefE K W ta ga) (qb : RefE K W tb gb) (h1 : RefO K r f) (h2 : RefO K r' g) : RefE K W (fun σ H Q => tOp r ta tb σ H Q ∨ tOp r' ta tb σ H Q) (gOp (quiet (op2or f g)) ga gb) := fun ρ s σ α H Q E S h => by
  have use : ∀ (r : R2) (f : Op2), RefO K r f → Post K (Rep K) W α H σ (gOp (quiet f) ga gb ρ s) Q → tOp r ta tb σ H Q := fun r f hr q => ref_op qa qb (fun x y d e α H s σ Q S R1 R2 h => hr x y d e α H s Q S R1 R2 (Post.still h)) ρ s σ α H Q E S q
  have pick : Post K (Rep K) W α H σ (gOp (quiet f) ga gb ρ s) Q ∨ Post K (Rep K) W α H σ (gOp (quiet g) ga gb ρ s) Q := by
    unfold gOp at h ⊢
    cases ea : ga ρ s with
    | bad => rw [ea] at h; exact h.elim
    | err e s1 => rw [ea] at h; exact .inl h
    | ok d s1 =>
      rw [ea] at h
      have h1 : Post K (Rep K) W α H σ ((gb ρ s1).bind fun y s2 => quiet (op2or f g) d y s2) Q := h
      show Post K (Rep K) W α H σ ((gb ρ s1).bind fun y s2 => quiet f d y s2) Q ∨ Post K (Rep K) W α H σ ((gb ρ s1).bind fun y s2 => quiet g d y s2) Q
      cases eb : gb ρ s1 with
      | bad => rw [eb] at h1; exact h1.elim
      | err e s2 => rw [eb] at h1; exact .inl h1
      | ok d2 s2 =>
        rw [eb] at h1
        have h2 : Post K (Rep K) W α H σ (quiet (op2or f g) d d2 s2) Q := h1
        show Post K (Rep K) W α H σ (quiet f d d2 s2) Q ∨ Post K (Rep K) W α H σ (quiet g d d2 s2) Q
        unfold quiet op2or at *
        cases ef : f d d2 s2 with
        | ok x s3 => rw [ef] at h2; exact .inl h2
        | err x s3 => rw [ef] at h2; exact h2.elim
        | bad => rw [ef] at h2; exact .inr h2
  rcases pick with q | q
  · exact .inl (use r f h1 q)
  · exact .inr (use r' g h2 q)
theorem je_ix {k : Nat} (hr : Room k X.A) (ha : JE X W a ga) (hb : JE X W b gb) (hs : PlainIx b) : JE X W (.Subscript a b pos) (gOp (quiet ixD) ga gb) := by
  obtain ⟨t, p, q⟩ := ha
  obtain ⟨u, p', q'⟩ := hb
  exact ⟨_, PE.or (pe_ix ix_seq p p' hs) (pe_dget (hu_of hr) p p' hs), ref_or2 q q' ref_ixS ref_ixDk⟩

/-! ### slices -/
def cutL {β : Type} (xs : List β) (lo hi : Option Int) : List β := (xs.drop (HT.sIx xs.length 0 lo)).take (HT.sIx xs.length xs.length hi - HT.sIx xs.length 0 lo)
theorem RepL.cut {ds : List D} {vs : List V} (r : RepL K α H ds vs) (lo hi : Option Int) : RepL K α H (cutL ds lo hi) (cutV vs lo hi) := by
  unfold cutL cutV
  rw [r.length]
  exact (r.drop _).take _
def slD (x : D) (lo hi : Option Int) (s : Sto) : Res D := match x with
  | .tup l => .ok (.tup (cutL l lo hi)) s
  | .str z => if decide (z.length ≤ line) then .ok (.str (cutS z lo hi)) s else .bad
  | .ref n => (match seq? s n with
    | some l => newO (.lst (cutL l lo hi)) s
    | none => .bad)
  | _ => .bad
/-- a part of a slice -/
abbrev FO := En → Sto → Res (Option Int)
def gNoPart : FO := fun _ s => .ok none s
def gPart (g : GE) : FO := fun ρ s => (g ρ s).bind fun x s1 => match x with
  | .int i => .ok (some i) s1
  | _ => .bad
def rI (_ : List Addr) (_ : Hp) (a b : Option Int) : Prop := b = a
def JP (X : Cx) (W : WX) (e : Option Expr) (g : FO) : Prop := ∃ t, PO X e t ∧ ∀ ρ s σ α H Q, ERel X.K α H ρ σ → SOk X.K α H s → Post X.K rI W α H σ (g ρ s) Q → t σ H Q
theorem jp_none : JP X W none gNoPart := ⟨_, po_none, fun ρ s σ α H Q E S h => Post.here h S rfl⟩
theorem jp_some (ha : JE X W a ga) : JP X W (some a) (gPart ga) := by
  obtain ⟨t, p, q⟩ := ha
  refine ⟨_, po_some p, fun ρ s σ α H Q E S h => q ρ s σ α H _ E S (Post.bind h fun d s1 v α1 H1 l1 S1 R1 h1 => ?_)⟩
  cases d with
  | int i =>
    cases R1
    exact ⟨i, rfl, Post.here h1 S1 rfl⟩
  | _ => exact h1.elim
def gSl (a : GE) (lo hi : FO) : GE := fun ρ s => (a ρ s).bind fun x s1 => (lo ρ s1).bind fun l s2 => (hi ρ s2).bind fun h s3 => slD x l h s3
theorem je_slice {lo hi : Option Expr} {gl gh : FO} {p2 : Pos} (ha : JE X W a ga) (hl : JP X W lo gl) (hh : JP X W hi gh) : JE X W (.Subscript a (.Slice lo hi none p2) pos) (gSl ga gl gh) := by
  obtain ⟨t, p, q⟩ := ha
  obtain ⟨t1, p1, q1⟩ := hl
  obtain ⟨t2, p2, q2⟩ := hh
  refine ⟨_, pe_slice (sl_tupA.or (sl_list.or sl_str)) p p1 p2, fun ρ s σ α H Q E S h => q ρ s σ α H _ E S (Post.bind h fun d s1 v α1 H1 l1 S1 R1 h1 => ?_)⟩
  refine q1 ρ s1 σ α1 H1 _ (E.mono l1) S1 (Post.bind h1 fun lo s2 v2 α2 H2 l2 S2 R2 h2 => ?_)
  refine q2 ρ s2 σ α2 H2 _ (E.mono (l1.trans l2)) S2 (Post.bind h2 fun hi s3 v3 α3 H3 l3 S3 R3 h3 => ?_)
  cases R2
  cases R3
  have R := R1.mono (l2.trans l3)
  cases d with
  | tup l =>
    obtain ⟨p, vs, rfl, hT, rl⟩ := R
    have h4 : Post X.K (Rep X.K) W α3 H3 σ (.ok (.tup (cutL l lo hi)) s3) Q := h3
    refine .inl ⟨p, vs, rfl, hT, fun hw => ?_, fun hw z hz => ?_⟩
    · refine Post.here h4 S3 ⟨p, vs, rfl, hT, ?_⟩
      have := rl.cut lo hi
      have e : cutV vs lo hi = vs := by
        unfold cutV
        rw [hw.1, hw.2, List.drop_zero, Nat.sub_zero, List.take_length]
      rw [e] at this
      exact this
    · exact h4 _ _ _ (Le.new hz) (S3.new hz) ⟨z, _, rfl, SqT.of upd_same, (rl.cut lo hi).mono (Le.new hz)⟩
  | ref n =>
    have h4 : Post X.K (Rep X.K) W α3 H3 σ (match seq? s3 n with
      | some l => newO (.lst (cutL l lo hi)) s3
      | none => .bad) Q := h3
    cases e : seq? s3 n with
    | none => rw [e] at h4; exact h4.elim
    | some l =>
      rw [e] at h4
      obtain ⟨p, vs, rfl, hL, rl⟩ := S3.seq e R
      refine .inr (.inl ⟨p, vs, rfl, hL, fun z hz => ?_⟩)
      exact new_lst S3 hz (rl.cut lo hi) h4
  | str z =>
    have h4 : Post X.K (Rep X.K) W α3 H3 σ (if decide (z.length ≤ line) then .ok (.str (cutS z lo hi)) s3 else .bad) Q := h3
    cases R
    cases e : decide (z.length ≤ line) with
    | false => rw [e] at h4; exact h4.elim
    | true =>
      rw [e, if_pos rfl] at h4
      exact .inr (.inr ⟨z, rfl, line_ok e, Post.here h4 S3 rfl⟩)
  | _ => exact h3.elim

/-! ### arguments, displays -/
def gNil : GA := fun _ s => .ok [] s
def gCons (a : GE) (r : GA) : GA := fun ρ s => (a ρ s).bind fun x s1 => (r ρ s1).bind fun xs s2 => .ok (x :: xs) s2
theorem ja_nil : JA X W [] gNil := ⟨_, pa_nil, fun ρ s σ α H Q E S h => Post.here h S rfl⟩
theorem ja_cons (ha : JE X W e ga) (hr : JA X W es gl) (hs : starEach (e :: es) X.env = (false, eval e X.env) :: starEach es X.env := by rfl) : JA X W (e :: es) (gCons ga gl) := by
  obtain ⟨t, p, q⟩ := ha
  obtain ⟨u, p', q'⟩ := hr
  refine ⟨_, pa_cons p p' hs, fun ρ s σ α H Q E S h => q ρ s σ α H _ E S (Post.bind h fun d s1 v α1 H1 l1 S1 R1 h1 => ?_)⟩
  refine q' ρ s1 σ α1 H1 _ (E.mono l1) S1 (Post.bind h1 fun ds s2 vs α2 H2 l2 S2 R2 h2 => ?_)
  exact Post.here h2 S2 (.cons (R1.mono l2) R2)
def gTup (g : GA) : GE := fun ρ s => (g ρ s).bind fun l s1 => if decide (l.length ≤ line) then .ok (.tup l) s1 else .bad
def gLst (g : GA) : GE := fun ρ s => (g ρ s).bind fun l s1 => if decide (l.length ≤ line) then newO (.lst l) s1 else .bad
theorem je_tup {x1} (h : JA X W es gl) : JE X W (.Tuple es x1 pos) (gTup gl) := by
  obtain ⟨t, p, q⟩ := h
  refine ⟨_, pe_tup p, fun ρ s σ α H Q E S h => q ρ s σ α H _ E S (Post.bind h fun l s1 vs α1 H1 l1 S1 R1 h1 => ?_)⟩
  cases c : decide (l.length ≤ line) with
  | false => rw [c] at h1; exact h1.elim
  | true =>
    rw [c, if_pos rfl] at h1
    exact ⟨by rw [R1.length]; exact line_ok c, fun z hz => h1 _ _ _ (Le.new hz) (S1.new hz) ⟨z, vs, rfl, SqT.of upd_same, R1.mono (Le.new hz)⟩⟩
theorem je_lst (h : JA X W es gl) : JE X W (.List es pos) (gLst gl) := by
  obtain ⟨t, p, q⟩ := h
  refine ⟨_, pe_lst p, fun ρ s σ α H Q E S h => q ρ s σ α H _ E S (Post.bind h fun l s1 vs α1 H1 l1 S1 R1 h1 => ?_)⟩
  cases c : decide (l.length ≤ line) with
  | false => rw [c] at h1; exact h1.elim
  | true =>
    rw [c, if_pos rfl] at h1
    exact ⟨by rw [R1.length]; exact line_ok c, fun z hz => new_lst S1 hz R1 h1⟩
def gDct0 : GE := fun _ s => newO (.dk []) s
/-! ### calls of built-ins by name -/
abbrev OpC := List D → Sto → Res D
def RefC (K : PySem.W.Frag) (r : List V → Hp → VK → Prop) (op : OpC) : Prop := ∀ xs ds α H s Q, SOk K α H s → RepL K α H ds xs → PV K (Rep K) α H (op ds s) Q → r xs H Q
def JC (X : Cx) (f : Value) (op : OpC) : Prop := ∃ r, CallR X f r ∧ RefC X.K r op
def opCor (f g : OpC) : OpC := fun ds s => (f ds s).or (g ds s)
theorem JC.or {f : Value} {p q : OpC} (ha : JC X f p) (hb : JC X f q) : JC X f (opCor p q) := by
  obtain ⟨r, p, q⟩ := ha
  obtain ⟨r', p', q'⟩ := hb
  refine ⟨_, p.or p', fun xs ds α H s Q S R h => ?_⟩
  rcases PV.or h with h | h
  · exact .inl (q xs ds α H s Q S R h)
  · exact .inr (q' xs ds α H s Q S R h)
def gCB (op : OpC) (g : GA) : GE := fun ρ s => (g ρ s).bind fun l s1 => (op l s1).still
theorem je_callB {x : Str} {p : Pos} {id : String} {op : OpC} (hc : JC X (.builtin id) op) (hg : Gl X x) (hm : X.mg x = none) (hv : bootBuiltins x = some (.builtin id)) (ha : JA X W (e :: es) gl) (hn : x ≠ "__name__" := by decide) (hdb : (x == ("__debug__" : Str)) = false := by decide)
    (he : starEach (e :: es) X.env = (false, eval e X.env) :: starEach es X.env := by rfl) (hpl : (backTo pos (starEach es X.env)).any (·.1) = false := by rfl) : JE X W (.Call (.Name x p) (e :: es) [] pos) (gCB op gl) := by
  obtain ⟨r, p1, q1⟩ := hc
  obtain ⟨t, p2, q2⟩ := ha
  exact ⟨_, pe_callB p1 hg hm hv p2 hn hdb he hpl, fun ρ s σ α H Q E S h => q2 ρ s σ α H _ E S (Post.bind h fun l s1 vs α1 H1 l1 S1 R1 h1 => q1 vs l α1 H1 s1 Q S1 R1 (Post.still h1))⟩
theorem rep1 {d : D} {xs : List V} (r : RepL K α H [d] xs) : ∃ v, xs = [v] ∧ Rep K α H d v := by
  obtain ⟨v, r', e, r1, r2⟩ := r
  rw [show r' = [] from r2] at e
  exact ⟨v, e, r1⟩
def lenSeq : OpC := fun ds s => match ds with
  | [d] => (match items? s d with
    | some l => .ok (.int (l.length : Int)) s
    | none => .bad)
  | _ => .bad
def lenTxt : OpC := fun ds s => match ds with
  | [.str z] => if decide (z.length ≤ line) then .ok (.int (z.length : Int)) s else .bad
  | _ => .bad
theorem jc_lenSeq : JC X (.builtin "len") lenSeq := ⟨_, call_len_seq, fun xs ds α H s Q S R h => by
  match ds, R, h with
  | [d], R, h =>
    have h1 : PV X.K (Rep X.K) α H (match items? s d with
      | some l => .ok (.int (l.length : Int)) s
      | none => .bad) Q := h
    cases q : items? s d with
    | none => rw [q] at h1; exact h1.elim
    | some l =>
      rw [q] at h1
      obtain ⟨v, rfl, r1⟩ := rep1 R
      obtain ⟨a, vs, rfl, hs, rl⟩ := items_rep S q r1
      refine ⟨a, vs, rfl, hs, ?_⟩
      rw [rl.length]
      exact PV.here h1 S rfl
  | [], _, h => exact h.elim
  | _ :: _ :: _, _, h => exact h.elim⟩
theorem jc_lenTxt : JC X (.builtin "len") lenTxt := ⟨_, call_len_str, fun xs ds α H s Q S R h => by
  unfold lenTxt at h
  split at h
  · split at h
    · next c =>
      obtain ⟨v, rfl, r1⟩ := rep1 R
      cases r1
      exact ⟨_, rfl, line_ok c, PV.here h S rfl⟩
    · exact h.elim
  · exact h.elim⟩
def lenDk : OpC := fun ds s => match ds with
  | [.ref n] => (match dw? s n with
    | some l => .ok (.int (l.length : Int)) s
    | none => .bad)
  | _ => .bad
theorem jc_lenDk : JC X (.builtin "len") lenDk := ⟨_, call_lenD, fun xs ds α H s Q S R h => by
  unfold lenDk at h
  split at h
  · split at h
    · next n l q =>
      obtain ⟨v, rfl, r1⟩ := rep1 R
      obtain ⟨a, kv, rfl, _, _, ha, rf⟩ := S.dw q r1
      refine ⟨a, kv, rfl, ha, ?_⟩
      rw [rf.len]
      exact PV.here h S rfl
    · exact h.elim
  · exact h.elim⟩
def lenD : OpC := opCor lenSeq (opCor lenTxt lenDk)
theorem jc_len : JC X (.builtin "len") lenD := jc_lenSeq.or (jc_lenTxt.or jc_lenDk)
/-- two ints in -/
def ii (g : Int → Int → D) : OpC := fun ds s => match ds with
  | [.int i, .int j] => .ok (g i j) s
  | _ => .bad
def maxD : OpC := ii fun i j => .int (if j > i then j else i)
def minD : OpC := ii fun i j => .int (if j < i then j else i)
def absD : OpC := fun ds s => match ds with
  | [.int i] => .ok (.int (if i < 0 then -i else i)) s
  | _ => .bad
/-! ### isinstance of built-in types -/
inductive Ty where
  | non | bool | int | str | tuple | list | dict
  deriving DecidableEq
def Ty.n : Ty → String
  | .non => "NoneType" | .bool => "bool" | .int => "int" | .str => "str" | .tuple => "tuple" | .list => "list" | .dict => "dict"
def Ty.is : Ty → Ty → Bool
  | .bool, .int => true
  | a, b => decide (a = b)
theorem Ty.kit : ∀ a b : Ty, b ≠ .non → kitB a.n b.n = some (a.is b) := by
  intro a b h
  cases a <;> cases b <;> first
    | exact absurd rfl h
    | decide +kernel
def tyOf (s : Sto) : D → Option Ty
  | .non => some .non
  | .bl _ => some .bool
  | .int _ => some .int
  | .str _ => some .str
  | .tup _ => some .tuple
  | .ref n => (match s[n]? with
    | some (.lst _) => some .list
    | some (.scr _) => some .list
    | some (.dk _) => some .dict
    | _ => none)
  | .hot _ _ => none
theorem tyOf_rep {d : D} {t : Ty} {v : V} (S : SOk K α H s) (h : tyOf s d = some t) (r : Rep K α H d v) : TyX K H v (.type t.n) := by
  cases d with
  | non => cases h; cases r; exact .base .non
  | bl b => cases h; cases r; exact .base (.bl _)
  | int i => cases h; cases r; exact .base (.int _)
  | str x => cases h; cases r; exact .base (.str _)
  | tup l =>
    cases h
    obtain ⟨a, vs, rfl, hT, rl⟩ := r
    rcases hT with (hT | ⟨o, hT⟩) | ⟨o, its, n, h1, h2, _⟩
    · exact .base (.tup hT)
    · exact .fTuple hT
    · exact .kTuple h1 h2
  | hot a dn => cases h
  | ref n =>
    have h' : (match s[n]? with
      | some (.lst _) => some Ty.list
      | some (.scr _) => some Ty.list
      | some (.dk _) => some Ty.dict
      | _ => none) = some t := h
    cases e : s[n]? with
    | none => rw [e] at h'; cases h'
    | some o =>
      rw [e] at h'
      obtain ⟨a, h1, h2⟩ := S.at_ n _ e
      obtain ⟨b, g1, rfl⟩ := r
      rw [h1] at g1
      cases g1
      cases o with
      | lst l =>
        cases h'
        obtain ⟨vs, q1, _⟩ := h2
        exact .base (.lst q1)
      | scr l =>
        cases h'
        obtain ⟨vs, q1, _⟩ := h2
        rcases q1 with ⟨o, q1⟩ | ⟨o, its, n, q1, q2, _⟩
        · exact .base (.frz q1)
        · exact .kList q1 q2
      | dk l =>
        cases h'
        obtain ⟨kv, q1, _⟩ := h2
        exact .base (.dK q1)
      | lk l => cases h'
      | ins c fs => cases h'
      | tab x => cases h'
      | xd fs => cases h'
      | dt l => cases h'
      | exv c m => cases h'
def gIsI (T : Ty) (a : GE) : GE := fun ρ s => (a ρ s).bind fun x s1 => match tyOf s1 x with
  | some t => .ok (.bl (t.is T)) s1
  | none => .bad
/-- isinstance(a, T): T a built-in class -/
theorem je_isI {x y : Str} {p p2 : Pos} (T : Ty) (hT : T ≠ .non) (ha : JE X W a ga) (hg : Gl X x) (hx : x = "isinstance") (hm : X.mg x = none) (hg2 : Gl X y) (hm2 : X.mg y = none) (hv2 : bootBuiltins y = some (.type T.n)) (hy : y ≠ "__name__" := by decide) (hdy : (y == ("__debug__" : Str)) = false := by decide)
    (he : starEach [a, .Name y p2] X.env = (false, eval a X.env) :: starEach [.Name y p2] X.env := by rfl) (he2 : starEach [.Name y p2] X.env = (false, eval (.Name y p2) X.env) :: starEach [] X.env := by rfl) (hpl : (backTo pos (starEach [.Name y p2] X.env)).any (·.1) = false := by rfl) :
    JE X W (.Call (.Name x p) [a, .Name y p2] [] pos) (gIsI T ga) := by
  subst hx
  obtain ⟨t, p1, q1⟩ := ha
  refine ⟨_, pe_callB call_isi hg hm PyProof.Rows.boot_isinstance (pa_cons p1 (pa_cons (pe_bltn (v := .ty T.n) hg2 hm2 hv2 rfl hy hdy) pa_nil he2) he) (by decide) (by decide) he hpl, fun ρ s σ α H Q E S h => q1 ρ s σ α H _ E S (Post.bind h fun d s1 v α1 H1 l1 S1 R1 h1 => ?_)⟩
  cases z : tyOf s1 d with
  | none => rw [z] at h1; exact h1.elim
  | some k =>
    rw [z] at h1
    exact ⟨v, .ty T.n, .type k.n, .type T.n, k.is T, rfl, .ty _, tyOf_rep S1 z R1, kit_ty (Ty.kit k T hT), Post.here h1 S1 rfl⟩

/-! ### methods of built-in types -/
abbrev OpM := D → List D → Sto → Res D
def RefM (K : PySem.W.Frag) (r : V → List V → Hp → VK → Prop) (op : OpM) : Prop := ∀ x xs d ds α H s Q, SOk K α H s → Rep K α H d x → RepL K α H ds xs → PV K (Rep K) α H (op d ds s) Q → r x xs H Q
def JM (X : Cx) (id : String) (op : OpM) : Prop := ∃ r, MtR X id r ∧ RefM X.K r op
def isL (s : Sto) : D → Bool
  | .ref n => (seq? s n).isSome
  | _ => false
theorem isL_rep {d : D} {v : V} (S : SOk K α H s) (h : isL s d = true) (r : Rep K α H d v) : tyV K "list" v H := by
  cases d with
  | ref n =>
    have h' : (seq? s n).isSome = true := h
    cases q : seq? s n with
    | none => rw [q] at h'; cases h'
    | some l =>
      obtain ⟨a, vs, rfl, hL, _⟩ := S.seq q r
      exact .inl ⟨rfl, vs, hL⟩
  | _ => cases h
def gLM (op : OpM) (o : GE) (g : GA) : GE := fun ρ s => (o ρ s).bind fun x s1 => match isL s1 x with
  | true => (g ρ s1).bind fun l s2 => (op x l s2).still
  | false => .bad
variable {o : Expr} {go : GE}
theorem je_lm {name : Str} {apos cpos : Pos} {id : String} {op : OpM} (slot : Slot "list" name id) (hty : typeOf (.builtin id) = pure (.type "method_descriptor")) (hm : JM X id op) (ho : JE X W o go) (ha : JA X W (e :: es) gl)
    (hbase : attributeBase o name X.env (eval o X.env) = eval o X.env := by rfl)
    (hfew : ((backTo cpos (starEach (e :: es) X.env)).all (fun x => !x.1) && (backToKw cpos (keywordEach [] X.env)).all (fun x => x.1.isSome) && decide ((e :: es).length + ([] : List Keyword).length + (if ([] : List Keyword).isEmpty then 0 else 1) < 30)) = true := by rfl)
    (hline : (apos.endLine == cpos.line) = true := by rfl) (hs : starEach (e :: es) X.env = (false, eval e X.env) :: starEach es X.env := by rfl) (hplain : (backTo cpos (starEach es X.env)).any (·.1) = false := by rfl) :
    JE X W (.Call (.Attribute o name apos) (e :: es) [] cpos) (gLM op go gl) := by
  obtain ⟨r, p1, q1⟩ := hm
  obtain ⟨t, p2, q2⟩ := ho
  obtain ⟨u, p3, q3⟩ := ha
  refine ⟨_, pe_bm PySem.F.plainAttrs_list slot hty p1 p2 p3 hbase hfew hline hs hplain, fun ρ s σ α H Q E S h => q2 ρ s σ α H _ E S (Post.bind h fun d s1 v α1 H1 l1 S1 R1 h1 => ?_)⟩
  cases z : isL s1 d with
  | false => rw [z] at h1; exact h1.elim
  | true =>
    rw [z] at h1
    refine ⟨isL_rep S1 z R1, q3 ρ s1 σ α1 H1 _ (E.mono l1) S1 (Post.bind h1 fun l s2 vs α2 H2 l2 S2 R2 h2 => ?_)⟩
    exact q1 v vs d l α2 H2 s2 Q S2 (R1.mono l2) R2 (Post.still h2)
/-- a list is changed -/
theorem set_lst {n : Nat} {p : Addr} {l l' : List D} {vs vs' : List V} {d : D} {v : V} {Q : V → Hp → Prop} (S : SOk K α H s) (e : s[n]? = some (.lst l)) (ea : α[n]? = some p) (h : H p = some (.lst vs)) (r : RepL K α H l' vs')
    (rd : ∀ H', Le K α H α H' → Rep K α H' d v) (q : PV K (Rep K) α H (.ok d (s.set n (.lst l'))) Q) : Q v (upd H p (.lst vs')) := by
  obtain ⟨S1, l1⟩ := S.write (u := .lst vs) (u' := .lst vs') (o' := .lst l') e ea h rfl rfl (fun _ z => by cases z) (fun _ _ z => by cases z) fun H' l z => ⟨vs', z, r.monoT l⟩
  exact q _ _ _ l1 S1 (rd _ l1)
def appendD : OpM := fun x xs s => match x, xs with
  | .ref n, [d] => (match lst? s n with
    | some l => if decide (l.length < line) then .ok .non (s.set n (.lst (l ++ [d]))) else .bad
    | none => .bad)
  | _, _ => .bad
theorem jm_append : JM X "list.append" appendD := ⟨_, mt_append, fun x xs d ds α H s Q S R1 R2 h => by
  unfold appendD at h
  split at h
  · next n d =>
    cases q : lst? s n with
    | none => rw [q] at h; exact h.elim
    | some l =>
      rw [q] at h
      have h1 : PV X.K (Rep X.K) α H (if decide (l.length < line) then .ok .non (s.set n (.lst (l ++ [d]))) else .bad) Q := h
      cases c : decide (l.length < line) with
      | false => rw [c] at h1; exact h1.elim
      | true =>
        rw [c, if_pos rfl] at h1
        obtain ⟨p, vs, rfl, ea, e, hp, rl⟩ := S.lst q R1
        obtain ⟨v, rfl, r1⟩ := rep1 R2
        refine ⟨p, vs, v, rfl, rfl, hp, ?_, set_lst (l' := l ++ [d]) (vs' := vs ++ [v]) (d := .non) (v := .non) S e ea hp (rl.append ⟨v, [], rfl, r1, rfl⟩) (fun _ _ => rfl) h1⟩
        rw [rl.length]
        exact Nat.lt_of_lt_of_le (of_decide_eq_true c) (by decide)
  · exact h.elim⟩
/-! methods of texts -/
def gSM (op : OpM) (o : GE) (g : GE) : GE := fun ρ s => (o ρ s).bind fun x s1 => match x with
  | .str z => (g ρ s1).bind fun y s2 => (op (.str z) [y] s2).still
  | _ => .bad
def gSM0 (op : OpM) (o : GE) : GE := fun ρ s => (o ρ s).bind fun x s1 => match x with
  | .str z => (op (.str z) [] s1).still
  | _ => .bad
/-! n.bit_length() -/
def gBits (a : GE) : GE := fun ρ s => (a ρ s).bind fun x s1 => match x with
  | .int i => .ok (.int (Builtin.Int.intBits i : Nat)) s1
  | _ => .bad
/-! d.get(k), d.get(k, x) -/
def isDk (s : Sto) : D → Bool
  | .ref n => (dk? s n).isSome
  | _ => false
def getOf (x k y : D) (s : Sto) : Res D := match x, key? k with
  | .ref n, some k => (match dk? s n with
    | some l => (match valD l k with
      | some d => .ok d s
      | none => .ok y s)
    | none => .bad)
  | _, _ => .bad
def gGet1 (o g : GE) : GE := fun ρ s => (o ρ s).bind fun x s1 => match isDk s1 x with
  | true => (g ρ s1).bind fun k s2 => getOf x k .non s2
  | false => .bad
def gGet2 (o g f : GE) : GE := fun ρ s => (o ρ s).bind fun x s1 => match isDk s1 x with
  | true => (g ρ s1).bind fun k s2 => (f ρ s2).bind fun y s3 => getOf x k y s3
  | false => .bad
end
end PD

/-! Pd4: statements, loops, comprehensions, defs. -/
namespace PD
open PySem L2
def SPost (K : PySem.W.Frag) (W : WX) (α : List Addr) (H : Hp) (r : RS) (D : Ends) : Prop := match r with
  | .nx ρ s => ∀ σ' α' H', Le K α H α' H' → SOk K α' H' s → ERel K α' H' ρ σ' → D.nx σ' H'
  | .bk ρ s => ∀ σ' α' H', Le K α H α' H' → SOk K α' H' s → ERel K α' H' ρ σ' → D.bk σ' H'
  | .ct ρ s => ∀ σ' α' H', Le K α H α' H' → SOk K α' H' s → ERel K α' H' ρ σ' → D.ct σ' H'
  | .rt d s => ∀ v α' H', Le K α H α' H' → SOk K α' H' s → Rep K α' H' d v → D.rt v H'
  | .err e ρ s => ∀ c dd σ' α' H', Le K α H α' H' → SOk K α' H' s → ERel K α' H' ρ σ' → XRep K α' H' e c dd → W c dd σ' H'
  | .bad => False
def RefS (K : PySem.W.Frag) (W : WX) (t : TS) (g : GS) : Prop := ∀ ρ s σ α H D, ERel K α H ρ σ → SOk K α H s → SPost K W α H (g ρ s) D → t D σ H
def JS (X : Cx) (W : WX) (st : Stmt) (g : GS) : Prop := ∃ t, PS X st t ∧ RefS X.K W t g
def JB (X : Cx) (W : WX) (sts : List Stmt) (g : GS) : Prop := ∃ t, PSs X sts t ∧ RefS X.K W t g
/-- a target: a value is taken -/
abbrev FG := D → En → Sto → Option (En × Sto)
def RefG (K : PySem.W.Frag) (t : TG) (g : FG) : Prop := ∀ d v ρ s σ α H Q, ERel K α H ρ σ → SOk K α H s → Rep K α H d v → (match g d ρ s with
  | some (ρ', s') => ∀ σ' α' H', Le K α H α' H' → SOk K α' H' s' → ERel K α' H' ρ' σ' → Q σ' H'
  | none => False) → t v σ H Q
def JG (X : Cx) (tg : Expr) (g : FG) : Prop := ∃ t, PG X tg t ∧ RefG X.K t g
section
variable {X : Cx} {W : WX} {K : PySem.W.Frag} {α α' α1 α2 : List Addr} {H H' H1 H2 : Hp} {s s' s1 s2 : Sto} {ρ ρ' : En} {σ σ' : L2.St} {DD : Ends}
variable {e a b c o i : Expr} {es rest : List Expr} {ga gb gc go gi : GE} {gl : GA} {ta tb : GT} {pos : Pos} {stm : Stmt} {sts body : List Stmt} {gs gr : GS}
theorem SPost.mono {r : RS} (l : Le K α H α1 H1) (h : SPost K W α H r DD) : SPost K W α1 H1 r DD := by
  cases r with
  | nx ρ s => exact fun σ' α' H' l1 => h σ' α' H' (l.trans l1)
  | bk ρ s => exact fun σ' α' H' l1 => h σ' α' H' (l.trans l1)
  | ct ρ s => exact fun σ' α' H' l1 => h σ' α' H' (l.trans l1)
  | rt d s => exact fun v α' H' l1 => h v α' H' (l.trans l1)
  | err e ρ s => exact fun c dd σ' α' H' l1 => h c dd σ' α' H' (l.trans l1)
  | bad => exact h
/-- behind a result -/
theorem SPost.st {β γ : Type} {rel : List Addr → Hp → β → γ → Prop} {r : Res β} {k : β → Sto → RS} {Q' : γ → Hp → Prop} (E : ERel K α H ρ σ) (h : SPost K W α H (r.st ρ k) DD)
    (hk : ∀ d s1 v α1 H1, Le K α H α1 H1 → SOk K α1 H1 s1 → rel α1 H1 d v → SPost K W α1 H1 (k d s1) DD → Q' v H1) : Post K rel W α H σ r Q' := by
  cases r with
  | ok d s => exact fun v α' H' l S R => hk d s v α' H' l S R (SPost.mono (r := k d s) l h)
  | err e s => exact fun c dd α' H' l S R => h c dd σ α' H' l S (E.mono l) R
  | bad => exact h

/-! ### simple statements -/
def gSkip : GS := fun ρ s => .nx ρ s
def gSeq (a b : GS) : GS := fun ρ s => (a ρ s).next b
theorem jb_nil : JB X W [] gSkip := ⟨_, pss_nil, fun ρ s σ α H D E S h => h σ α H Le.refl S E⟩
theorem jb_cons (h1 : JS X W stm gs) (h2 : JB X W sts gr) : JB X W (stm :: sts) (gSeq gs gr) := by
  obtain ⟨t, p, q⟩ := h1
  obtain ⟨u, p', q'⟩ := h2
  refine ⟨_, pss_cons p p', fun ρ s σ α H D E S h => q ρ s σ α H _ E S ?_⟩
  unfold gSeq at h
  cases r : gs ρ s with
  | nx ρ1 s1 =>
    rw [r] at h
    exact fun σ1 α1 H1 l S1 E1 => q' ρ1 s1 σ1 α1 H1 D E1 S1 (SPost.mono (r := gr ρ1 s1) l h)
  | bk ρ1 s1 => rw [r] at h; exact h
  | ct ρ1 s1 => rw [r] at h; exact h
  | rt ρ1 s1 => rw [r] at h; exact h
  | err e ρ1 s1 => rw [r] at h; exact h
  | bad => rw [r] at h; exact h
theorem jb_one (h1 : JS X W stm gs) : JB X W [stm] gs := by
  obtain ⟨t, p, q⟩ := h1
  exact ⟨t, pss_one p, q⟩
def gBreak : GS := fun ρ s => .bk ρ s
def gCont : GS := fun ρ s => .ct ρ s
def gExpr (a : GE) : GS := fun ρ s => (a ρ s).st ρ fun _ s1 => .nx ρ s1
theorem js_expr (ha : JE X W a ga) (hs : swapsWith a none pos.line X.env = pure false := by rfl) : JS X W (.Expr a pos) (gExpr ga) := by
  obtain ⟨t, p, q⟩ := ha
  exact ⟨_, ps_expr p hs, fun ρ s σ α H D E S h => q ρ s σ α H _ E S (SPost.st E h fun d s1 v α1 H1 l S1 R h1 => h1 σ α1 H1 Le.refl S1 (E.mono l))⟩
def gRet (a : GE) : GS := fun ρ s => (a ρ s).st ρ fun x s1 => .rt x s1
theorem js_ret (ha : JE X W a ga) : JS X W (.Return (some a) pos) (gRet ga) := by
  obtain ⟨t, p, q⟩ := ha
  exact ⟨_, ps_ret p, fun ρ s σ α H D E S h => q ρ s σ α H _ E S (SPost.st E h fun d s1 v α1 H1 l S1 R h1 => h1 v α1 H1 Le.refl S1 R)⟩
def gRetN : GS := fun ρ s => .rt .non s
def gIf (c : GT) (a b : GS) : GS := fun ρ s => (c ρ s).st ρ fun x s1 => match x with
  | true => a ρ s1
  | false => b ρ s1
theorem js_if {p q : List Stmt} (hc : JT X W c ta) (ha : JB X W p gs) (hb : JB X W q gr) : JS X W (.If c p q pos) (gIf ta gs gr) := by
  obtain ⟨tc, pc, qc⟩ := hc
  obtain ⟨t, p1, q1⟩ := ha
  obtain ⟨u, p2, q2⟩ := hb
  refine ⟨_, ps_if pc p1 p2, fun ρ s σ α H D E S h => qc ρ s σ α H _ E S (SPost.st E h fun d s1 v α1 H1 l S1 R h1 => ?_)⟩
  cases R
  cases d with
  | true => exact q1 ρ s1 σ α1 H1 D (E.mono l) S1 h1
  | false => exact q2 ρ s1 σ α1 H1 D (E.mono l) S1 h1

/-! ### targets, assignments -/
def gName_ (i : Nat) : FG := fun d ρ s => some (ρ.set i (some d), s)
theorem jg_name {i : Nat} {x : Str} (hN : X.N.Nodup) (hi : X.N[i]? = some x := by rfl) (hx : Loc X.env.scope x := by first | exact Or.inl rfl | exact Or.inr rfl) (hf : X.fn x = true ∨ X.env.scope.names.lookup x = some .local := by first | exact .inl rfl | exact .inr rfl) : JG X (.Name x pos) (gName_ i) :=
  ⟨_, pg_name hN hi hx hf, fun d v ρ s σ α H Q E S R h => h _ α H Le.refl S (E.set R)⟩
def gTNil : List D → En → Sto → Option (En × Sto) := fun ds ρ s => match ds with
  | [] => some (ρ, s)
  | _ => none
def gTCons (g : FG) (r : List D → En → Sto → Option (En × Sto)) : List D → En → Sto → Option (En × Sto) := fun ds ρ s => match ds with
  | d :: ds => (match g d ρ s with
    | some (ρ', s') => r ds ρ' s'
    | none => none)
  | [] => none
/-- a, b = t: a tuple or a list -/
def gTupT (n : Nat) (g : List D → En → Sto → Option (En × Sto)) : FG := fun d ρ s => match items? s d with
  | some l => if decide (l.length = n) then g l ρ s else none
  | none => none
theorem PG.or {tg : Expr} {t t' : TG} (h : PG X tg t) (h' : PG X tg t') : PG X tg (fun v σ H Q => t v σ H Q ∨ t' v σ H Q) := ⟨fun pins s σ H v u Q I r q => q.elim (h.run pins s σ H v u Q I r) (h'.run pins s σ H v u Q I r)⟩
def gAsg (a : GE) (g : FG) : GS := fun ρ s => (a ρ s).st ρ fun x s1 => match g x ρ s1 with
  | some (ρ', s') => .nx ρ' s'
  | none => .bad
/-- x = e -/
def gSet (i : Nat) (a : GE) : GS := fun ρ s => (a ρ s).st ρ fun x s1 => .nx (ρ.set i (some x)) s1
theorem js_set {i : Nat} {x : Str} {pos' : Pos} (hN : X.N.Nodup) (ha : JE X W a ga) (hi : X.N[i]? = some x := by rfl) (hx : Loc X.env.scope x := by first | exact Or.inl rfl | exact Or.inr rfl) (hs : swapsWith a (some (.Name x pos')) pos.line X.env = pure false := by rfl) (hf : X.fn x = true ∨ X.env.scope.names.lookup x = some .local := by first | exact .inl rfl | exact .inr rfl) : JS X W (.Assign [.Name x pos'] a pos) (gSet i ga) := by
  obtain ⟨t, p, q⟩ := ha
  exact ⟨_, ps_set hN hi hx p hs hf, fun ρ s σ α H D E S h => q ρ s σ α H _ E S (SPost.st E h fun d s1 v α1 H1 l S1 R h1 => h1 _ α1 H1 Le.refl S1 ((E.mono l).set R))⟩
/-- a, b = e1, e2: both at once -/
def gPar (i j : Nat) (a : GA) : GS := fun ρ s => (a ρ s).st ρ fun l s1 => match l with
  | [x, y] => .nx ((ρ.set i (some x)).set j (some y)) s1
  | _ => .bad
/-- o[i] = e: a list, a dict -/
def setLst (o i v : D) (s : Sto) : Option Sto := match o, i with
  | .ref n, .int k => (match lst? s n with
    | some l => (match ixN l.length k with
      | some j => some (s.set n (.lst (l.set j v)))
      | none => none)
    | none => none)
  | _, _ => none
def setDk (o i v : D) (s : Sto) : Option Sto := match o, key? i with
  | .ref n, some k => (match dw? s n with
    | some l => if decide (l.length < line) then some (s.set n (.dk (putD l k v))) else none
    | none => none)
  | _, _ => none
def gPut (o i e : GE) : GS := fun ρ s => (e ρ s).st ρ fun v s1 => (o ρ s1).st ρ fun x s2 => (i ρ s2).st ρ fun k s3 => match setLst x k v s3 with
  | some s' => .nx ρ s'
  | none => (match setDk x k v s3 with
    | some s' => .nx ρ s'
    | none => .bad)
theorem PS.or {t t' : TS} (h : PS X stm t) (h' : PS X stm t') : PS X stm (fun D σ H => t D σ H ∨ t' D σ H) := ⟨fun pins s σ H D I q => q.elim (h.run pins s σ H D I) (h'.run pins s σ H D I)⟩
/-- x op= e -/
def gAug (i : Nat) (op : Op2) (a : GE) : GS := fun ρ s => match ρ[i]? with
  | some (some d) => (a ρ s).st ρ fun y s1 => match op d y s1 with
    | .ok z s2 => .nx (ρ.set i (some z)) s2
    | _ => .bad
  | _ => .bad
def iaddD : Op2 := op2or (iOp0 fun i j => .int (i + j)) addStr
/-! ### while -/
def lots : Nat := 2000000
/-! ### what is walked -/
/-- at a turn, in a store: nothing known; at its end; an item -/
abbrev IT := Nat → Sto → Option (Option D)
def ItAt (K : PySem.W.Frag) (α1 : List Addr) (H1 : Hp) (s1 : Sto) (J : It) (i : Nat) (o : Option (Option D)) : Prop := match o with
  | none => True
  | some none => J.stop i H1
  | some (some d) => J.go i H1 ∧ ∀ x H2, J.yld i H1 x H2 → Le K α1 H1 α1 H2 ∧ SOk K α1 H2 s1 ∧ Rep K α1 H2 d x
def ItRel (K : PySem.W.Frag) (α : List Addr) (H : Hp) (it : IT) (J : It) : Prop := ∀ i α1 H1 s1, Le K α H α1 H1 → SOk K α1 H1 s1 → ItAt K α1 H1 s1 J i (it i s1)
theorem ItRel.mono {it : IT} {J : It} (l : Le K α H α1 H1) (h : ItRel K α H it J) : ItRel K α1 H1 it J := fun i α2 H2 s2 l2 S2 => h i α2 H2 s2 (l.trans l2) S2
abbrev FI := En → Sto → Res IT
def JI (X : Cx) (W : WX) (tg iter : Expr) (g : FI) : Prop := ∃ t, PI X tg iter t ∧ ∀ ρ s σ α H R, ERel X.K α H ρ σ → SOk X.K α H s → Post X.K (ItRel X.K) W α H σ (g ρ s) R → t σ H R
def forG (it : IT) (g : FG) (b : GS) : Nat → Nat → GS
  | 0, _, _, _ => .bad
  | n + 1, i, ρ, s => match it i s with
    | none => .bad
    | some none => .nx ρ s
    | some (some d) => (match g d ρ s with
      | none => .bad
      | some (ρ1, s1) => (match b ρ1 s1 with
        | .nx ρ' s' => forG it g b n (i + 1) ρ' s'
        | .ct ρ' s' => forG it g b n (i + 1) ρ' s'
        | .bk ρ' s' => .nx ρ' s'
        | r => r))
def gFor (fi : FI) (g : FG) (b : GS) : GS := fun ρ s => (fi ρ s).st ρ fun it s1 => forG it g b lots 0 ρ s1
theorem js_for {tg iter : Expr} {fi : FI} {g : FG} (hp : PassesOwn (model X.prog X.w) X.A X.env X.xe) (hc : X.calm = true) (hi : JI X W tg iter fi) (hg : JG X tg g) (hb : JB X W body gs)
    (h : ∀ wi gg tb, PassesOwn (model X.prog X.w) X.A X.env X.xe → X.calm = true → PI X tg iter wi → PG X tg gg → PSs X body tb → PS X (.For tg iter body [] pos) (tFor wi gg tb) := by intro wi gg tb a b p q r; exact ps_for a b p q r) : JS X W (.For tg iter body [] pos) (gFor fi g gs) := by
  obtain ⟨wi, p1, q1⟩ := hi
  obtain ⟨gg, p2, q2⟩ := hg
  obtain ⟨tb, p3, q3⟩ := hb
  refine ⟨_, h wi gg tb hp hc p1 p2 p3, fun ρ s σ α H D E S h => q1 ρ s σ α H _ E S (SPost.st E h fun it s1 J α1 H1 l1 S1 R1 h1 => ?_)⟩
  refine ⟨fun i m σ2 H2 => ∃ ρ2 s2 α2, Le X.K α1 H1 α2 H2 ∧ ERel X.K α2 H2 ρ2 σ2 ∧ SOk X.K α2 H2 s2 ∧ SPost X.K W α2 H2 (forG it g gs m i ρ2 s2) D, ⟨lots, ρ, s1, α1, Le.refl, E.mono l1, S1, h1⟩, ?_⟩
  rintro i m σ2 H2 ⟨ρ2, s2, α2, l2, E2, S2, h2⟩
  cases m with
  | zero => exact h2.elim
  | succ m =>
    have hit := R1 i α2 H2 s2 l2 S2
    have h3 : SPost X.K W α2 H2 (match it i s2 with
      | none => .bad
      | some none => .nx ρ2 s2
      | some (some d) => (match g d ρ2 s2 with
        | none => .bad
        | some (ρ1, s1) => (match gs ρ1 s1 with
          | .nx ρ' s' => forG it g gs m (i + 1) ρ' s'
          | .ct ρ' s' => forG it g gs m (i + 1) ρ' s'
          | .bk ρ' s' => .nx ρ' s'
          | r => r))) D := h2
    cases z : it i s2 with
    | none => rw [z] at h3; exact h3.elim
    | some w =>
      rw [z] at h3 hit
      cases w with
      | none => exact .inl ⟨hit, h3 σ2 α2 H2 Le.refl S2 E2⟩
      | some d =>
        obtain ⟨hgo, hy⟩ := hit
        refine .inr ⟨hgo, fun σ' H' => ∃ ρ2 s2 α2, Le X.K α1 H1 α2 H' ∧ ERel X.K α2 H' ρ2 σ' ∧ SOk X.K α2 H' s2 ∧ SPost X.K W α2 H' (forG it g gs m (i + 1) ρ2 s2) D, fun σ' H' w => ⟨m, Nat.lt_succ_self m, w⟩, fun x H3 hx => ?_⟩
        obtain ⟨l3, S3, R3⟩ := hy x H3 hx
        have h4 := SPost.mono l3 (show SPost X.K W α2 H2 (match g d ρ2 s2 with
          | none => .bad
          | some (ρ1, s1) => (match gs ρ1 s1 with
            | .nx ρ' s' => forG it g gs m (i + 1) ρ' s'
            | .ct ρ' s' => forG it g gs m (i + 1) ρ' s'
            | .bk ρ' s' => .nx ρ' s'
            | r => r)) D from h3)
        refine q2 d x ρ2 s2 σ2 α2 H3 _ (E2.mono l3) S3 R3 ?_
        cases z2 : g d ρ2 s2 with
        | none => rw [z2] at h4; exact h4.elim
        | some w =>
          obtain ⟨ρ4, s4⟩ := w
          rw [z2] at h4
          intro σ4 α4 H4 l4 S4 E4
          refine q3 ρ4 s4 σ4 α4 H4 _ E4 S4 ?_
          have h5 := SPost.mono l4 (show SPost X.K W α2 H3 (match gs ρ4 s4 with
            | .nx ρ' s' => forG it g gs m (i + 1) ρ' s'
            | .ct ρ' s' => forG it g gs m (i + 1) ρ' s'
            | .bk ρ' s' => .nx ρ' s'
            | r => r) D from h4)
          have l5 := (l2.trans l3).trans l4
          cases z3 : gs ρ4 s4 with
          | nx ρ' s' => rw [z3] at h5; exact fun σ' α' H' l S' E' => ⟨ρ', s', α', l5.trans l, E', S', SPost.mono (r := forG it g gs m (i + 1) ρ' s') l h5⟩
          | ct ρ' s' => rw [z3] at h5; exact fun σ' α' H' l S' E' => ⟨ρ', s', α', l5.trans l, E', S', SPost.mono (r := forG it g gs m (i + 1) ρ' s') l h5⟩
          | bk ρ' s' => rw [z3] at h5; exact h5
          | rt d s' => rw [z3] at h5; exact h5
          | err ee ρ' s' => rw [z3] at h5; exact h5
          | bad => rw [z3] at h5; exact h5
/-! the walked things -/
def itSeq (d : D) : IT := fun i s => match items? s d with
  | some l => some l[i]?
  | none => none
def gIt (a : GE) : FI := fun ρ s => (a ρ s).bind fun x s1 => match items? s1 x with
  | some _ => .ok (itSeq x) s1
  | none => .bad
theorem PI.or {tg iter : Expr} {t t' : TI} (h : PI X tg iter t) (h' : PI X tg iter t') : PI X tg iter (fun σ H R => t σ H R ∨ t' σ H R) := ⟨fun pins s σ H R I q => q.elim (h.run pins s σ H R I) (h'.run pins s σ H R I)⟩
theorem itSeq_l {n : Nat} {a : Addr} (ha : α[n]? = some a) : ItRel K α H (itSeq (.ref n)) (Itl K a) := fun i α1 H1 s1 l S1 => by
  have r : Rep K α1 H1 (.ref n) (.ref a) := ⟨a, l.get ha, rfl⟩
  unfold itSeq
  cases z : items? s1 (.ref n) with
  | none => trivial
  | some l1 =>
    obtain ⟨b, vs, eb, hL, rl⟩ := S1.seq z r
    cases eb
    show ItAt K α1 H1 s1 (Itl K a) i (some l1[i]?)
    cases z2 : l1[i]? with
    | none => exact ⟨vs, hL, by rw [rl.length]; exact List.getElem?_eq_none_iff.mp z2⟩
    | some d =>
      obtain ⟨v, g1, g2⟩ := rl.get z2
      refine ⟨⟨vs, v, hL, g1⟩, fun x H2 hy => ?_⟩
      obtain ⟨e1, e2⟩ := hy
      subst e1
      have := e2 vs hL
      rw [g1] at this
      cases this
      exact ⟨Le.refl, S1, g2⟩
theorem itSeq_t {l : List D} {a : Addr} {vs : List V} (hT : SqT K H a vs) (rl : RepL K α H l vs) : ItRel K α H (itSeq (.tup l)) (Itt K a) := fun i α1 H1 s1 le S1 => by
  show ItAt K α1 H1 s1 (Itt K a) i (some l[i]?)
  have hT1 := le.tup _ _ hT
  have rl1 := rl.mono le
  cases z2 : l[i]? with
  | none => exact ⟨vs, hT1, by rw [rl.length]; exact List.getElem?_eq_none_iff.mp z2⟩
  | some d =>
    obtain ⟨v, g1, g2⟩ := rl1.get z2
    refine ⟨⟨vs, v, hT1, g1⟩, fun x H2 hy => ?_⟩
    obtain ⟨e1, e2⟩ := hy
    subst e1
    have := e2 vs hT1
    rw [g1] at this
    cases this
    exact ⟨Le.refl, S1, g2⟩
theorem ji_seq {tg : Expr} (ha : JE X W a ga) : JI X W tg a (gIt ga) := by
  obtain ⟨t, p, q⟩ := ha
  refine ⟨_, PI.or (pi_list p) (pi_tup p), fun ρ s σ α H R E S h => ?_⟩
  unfold gIt at h
  cases z : ga ρ s with
  | bad => rw [z] at h; exact h.elim
  | err ee s1 => rw [z] at h; exact .inl (q ρ s σ α H _ E S (by rw [z]; exact h))
  | ok d s1 =>
    rw [z] at h
    have h1 : Post X.K (ItRel X.K) W α H σ (match items? s1 d with
      | some _ => .ok (itSeq d) s1
      | none => .bad) R := h
    cases z2 : items? s1 d with
    | none => rw [z2] at h1; exact h1.elim
    | some l =>
      rw [z2] at h1
      have h2 : Post X.K (ItRel X.K) W α H σ (.ok (itSeq d) s1) R := h1
      cases d with
      | ref n =>
        refine .inl (q ρ s σ α H _ E S (by
          rw [z]
          intro v α1 H1 l1 S1 R1
          obtain ⟨a, vs, rfl, hL, rl⟩ := S1.seq z2 R1
          obtain ⟨b, g1, g2⟩ := R1
          cases g2
          exact ⟨a, rfl, ⟨vs, hL⟩, h2 _ α1 H1 l1 S1 (itSeq_l g1)⟩))
      | tup l' =>
        refine .inr (q ρ s σ α H _ E S (by
          rw [z]
          intro v α1 H1 l1 S1 R1
          obtain ⟨a, vs, rfl, hT, rl⟩ := R1
          exact ⟨a, rfl, ⟨vs, hT⟩, h2 _ α1 H1 l1 S1 (itSeq_t hT rl)⟩))
      | _ => cases z2
def itRng (lo : Int) (n : Nat) : IT := fun i _ => some (if i < n then some (.int (lo + i)) else none)
@[irreducible] def rngOk (i : Int) : Bool := decide (-(2 ^ 62) ≤ i) && decide (i < 2 ^ 62)
def gRng1 (a : GE) : FI := fun ρ s => (a ρ s).bind fun x s1 => match x with
  | .int j => if rngOk j then .ok (itRng 0 j.toNat) s1 else .bad
  | _ => .bad
def gRng2 (a b : GE) : FI := fun ρ s => (a ρ s).bind fun x s1 => (b ρ s1).bind fun y s2 => match x, y with
  | .int i, .int j => if rngOk i && rngOk j then .ok (itRng i (j - i).toNat) s2 else .bad
  | _, _ => .bad
theorem itRng_ok {lo : Int} {n : Nat} : ItRel K α H (itRng lo n) (Itr lo n) := fun i α1 H1 s1 l S1 => by
  show ItAt K α1 H1 s1 (Itr lo n) i (some (if i < n then some (D.int (lo + i)) else none))
  by_cases h : i < n
  · rw [if_pos h]
    refine ⟨h, fun x H2 hy => ?_⟩
    obtain ⟨rfl, rfl⟩ := hy
    exact ⟨Le.refl, S1, rfl⟩
  · rw [if_neg h]
    exact Nat.le_of_not_lt h
theorem rngOk_of {i : Int} (h : rngOk i = true) : -(2 ^ 62) ≤ i ∧ i < 2 ^ 62 := by
  unfold rngOk at h
  obtain ⟨h1, h2⟩ := Bool.and_eq_true_iff.mp h
  exact ⟨of_decide_eq_true h1, of_decide_eq_true h2⟩
theorem ji_rng1 {tg : Expr} {p pos : Pos} (hg : Gl X "range") (hm : X.mg "range" = none) (ha : JE X W a ga) (hs : starEach [a] X.env = [(false, eval a X.env)] := by rfl) : JI X W tg (.Call (.Name "range" p) [a] [] pos) (gRng1 ga) := by
  obtain ⟨t, p1, q⟩ := ha
  refine ⟨_, pi_range1 hg hm (pa_cons p1 pa_nil hs) hs, fun ρ s σ α H R E S h => q ρ s σ α H _ E S (Post.bind h fun d s1 v α1 H1 l1 S1 R1 h1 => ?_)⟩
  cases d with
  | int j =>
    cases R1
    have h2 : Post X.K (ItRel X.K) W α1 H1 σ (if rngOk j then .ok (itRng 0 j.toNat) s1 else .bad) R := h1
    cases z : rngOk j with
    | false => rw [z] at h2; exact h2.elim
    | true =>
      rw [z, if_pos rfl] at h2
      obtain ⟨b1, b2⟩ := rngOk_of z
      exact ⟨j, rfl, b1, b2, Post.here h2 S1 itRng_ok⟩
  | _ => exact h1.elim
/-! reversed(a list) -/
def itRev (n len : Nat) : IT := fun i s => if i < len then (match seq? s n with
  | some l => (match l[len - 1 - i]? with
    | some d => some (some d)
    | none => none)
  | none => none) else some none
def gRev (a : GE) : FI := fun ρ s => (a ρ s).bind fun x s1 => match x with
  | .ref n => (match seq? s1 n with
    | some l => .ok (itRev n l.length) s1
    | none => .bad)
  | _ => .bad
/-! a text, sign by sign -/
def itTxt (x : Str) : IT := fun i _ => some ((x.cps[i]?).map fun c => .str ⟨#[c]⟩)
def gItTxt (a : GE) : FI := fun ρ s => (a ρ s).bind fun x s1 => match x with
  | .str z => .ok (itTxt z) s1
  | _ => .bad
theorem ji_txt {tg : Expr} (ha : JE X W a ga) : JI X W tg a (gItTxt ga) := by
  obtain ⟨t, p1, q⟩ := ha
  refine ⟨_, pi_str p1, fun ρ s σ α H R E S h => q ρ s σ α H _ E S (Post.bind h fun d s1 v α1 H1 l1 S1 R1 h1 => ?_)⟩
  cases d with
  | str z =>
    cases R1
    refine ⟨z, rfl, Post.here h1 S1 fun i α2 H2 s2 l2 S2 => ?_⟩
    show ItAt X.K α2 H2 s2 (Its z) i (some ((z.cps[i]?).map fun c => D.str ⟨#[c]⟩))
    cases e : z.cps[i]? with
    | none => exact Array.getElem?_eq_none_iff.mp e
    | some c =>
      have hl : i < z.cps.size := by
        obtain ⟨h1, _⟩ := Array.getElem?_eq_some_iff.mp e
        exact h1
      refine ⟨hl, fun x H3 hy => ?_⟩
      obtain ⟨rfl, c', e', rfl⟩ := hy
      rw [e] at e'
      cases e'
      exact ⟨Le.refl, S2, rfl⟩
  | _ => exact h1.elim
end
end PD

/-! Pd5: comprehensions, defs and their calls. -/
namespace PD
open PySem L2
section
variable {X : Cx} {W : WX} {K : PySem.W.Frag} {α α' α1 α2 : List Addr} {H H' H1 H2 : Hp} {s s' s1 s2 : Sto} {ρ ρ' : En} {σ σ' : L2.St}
variable {e a b c o i : Expr} {es rest : List Expr} {ga gb gc go gi : GE} {gl : GA} {ta tb : GT} {pos : Pos} {stm : Stmt} {sts body : List Stmt} {gs gr : GS}

/-! ### comprehensions -/
def wipeD (ρ : En) : List Nat → En
  | [] => ρ
  | v :: vs => (wipeD ρ vs).set v none
theorem wipe_rel (E : ERel K α H ρ σ) : ∀ vs : List Nat, ERel K α H (wipeD ρ vs) (wipe σ vs)
  | [] => E
  | v :: vs => (wipe_rel E vs).unset
theorem wipe_at {σ : L2.St} {i : Nat} : ∀ {vs : List Nat}, i ∈ vs → ∀ y : Option V, wipe (σ.set i y) vs = wipe σ vs
  | [], h, _ => by cases h
  | v :: vs, h, y => by
    show (wipe (σ.set i y) vs).set v none = (wipe σ vs).set v none
    by_cases hi : i ∈ vs
    · rw [wipe_at hi y]
    · have e : i = v := by
        rcases List.mem_cons.mp h with h | h
        · exact h
        · exact absurd h hi
      subst e
      have go : ∀ (vs : List Nat) (σ : L2.St), i ∉ vs → wipe (σ.set i y) vs = (wipe σ vs).set i y := by
        intro vs
        induction vs with
        | nil => intro σ _; rfl
        | cons w ws ih =>
          intro σ hw
          show (wipe (σ.set i y) ws).set w none = ((wipe σ ws).set w none).set i y
          have hne : i ≠ w := fun z => hw (by rw [z]; exact List.mem_cons_self ..)
          rw [ih σ fun z => hw (List.mem_cons_of_mem _ z), List.set_comm _ _ hne]
      rw [go vs σ hi, List.set_set]
theorem wipe_twice {σ : L2.St} : ∀ vs : List Nat, wipe (wipe σ vs) vs = wipe σ vs := by
  have go : ∀ (us vs : List Nat), (∀ u ∈ us, u ∈ vs) → wipe (wipe σ us) vs = wipe σ vs := by
    intro us
    induction us with
    | nil => intro vs _; rfl
    | cons u us ih =>
      intro vs h
      show wipe ((wipe σ us).set u none) vs = wipe σ vs
      rw [wipe_at (h u (List.mem_cons_self ..))]
      exact ih vs fun w hw => h w (List.mem_cons_of_mem _ hw)
  exact fun vs => go vs vs fun _ h => h
/-- targets of a comprehension: one name, or a tuple of names -/
inductive CT where
  | one (i : Nat) | tup (is : List Nat)
def namesT : List Nat → List D → En → En
  | i :: is, d :: ds, ρ => namesT is ds (ρ.set i (some d))
  | _, _, ρ => ρ
def CT.put (t : CT) (d : D) (ρ : En) (s : Sto) : Option En := match t with
  | .one i => some (ρ.set i (some d))
  | .tup is => (match items? s d with
    | some l => if decide (l.length = is.length) then some (namesT is l ρ) else none
    | none => none)
def gNames : List Nat → TGs
  | [] => L2.gNil
  | i :: is => L2.gCons (L2.gName i) (gNames is)
def CT.tg (K : PySem.W.Frag) : CT → TG
  | .one i => L2.gName i
  | .tup is => fun v σ H Q => L2.gTup K is.length (gNames is) v σ H Q ∨ L2.gLst K is.length (gNames is) v σ H Q
def CT.vs : CT → List Nat
  | .one i => [i]
  | .tup is => is
theorem gNames_go {vs : List Nat} : ∀ {is : List Nat} {l : List D} {xs : List V} {ρ : En} {σ : L2.St} {Q : L2.St → Hp → Prop}, (∀ i ∈ is, i ∈ vs) → l.length = is.length → RepL K α H l xs → ERel K α H ρ σ →
    (∀ σ', ERel K α H (namesT is l ρ) σ' → wipe σ' vs = wipe σ vs → Q σ' H) → gNames is xs σ H Q
  | [], [], xs, ρ, σ, Q, _, _, r, E, h => ⟨r, h σ E rfl⟩
  | [], _ :: _, _, _, _, _, _, hl, _, _, _ => by cases hl
  | _ :: _, [], _, _, _, _, _, hl, _, _, _ => by cases hl
  | i :: is, d :: l, xs, ρ, σ, Q, hv, hl, r, E, h => by
    obtain ⟨v, r', e, r1, r2⟩ := r
    refine ⟨v, r', e, gNames_go (fun j hj => hv j (List.mem_cons_of_mem _ hj)) (Nat.succ.inj hl) r2 (E.set r1) fun σ' E' w => h σ' E' ?_⟩
    rw [w, wipe_at (hv i (List.mem_cons_self ..))]
theorem CT.run {t : CT} {vs : List Nat} (hv : ∀ i ∈ t.vs, i ∈ vs) {d : D} {v : V} {Q : L2.St → Hp → Prop} (S : SOk K α H s) (E : ERel K α H ρ σ) (r : Rep K α H d v) {ρ1 : En} (h : t.put d ρ s = some ρ1)
    (q : ∀ σ', ERel K α H ρ1 σ' → wipe σ' vs = wipe σ vs → Q σ' H) : t.tg K v σ H Q := by
  cases t with
  | one i =>
    cases h
    exact q _ (E.set r) (wipe_at (hv i (List.mem_cons_self ..)) _)
  | tup is =>
    have h1 : (match items? s d with
      | some l => if decide (l.length = is.length) then some (namesT is l ρ) else none
      | none => none) = some ρ1 := h
    cases z : items? s d with
    | none => rw [z] at h1; cases h1
    | some l =>
      rw [z] at h1
      have h2 : (if decide (l.length = is.length) then some (namesT is l ρ) else none) = some ρ1 := h1
      cases c : decide (l.length = is.length) with
      | false => rw [c] at h2; cases h2
      | true =>
        rw [c, if_pos rfl] at h2
        cases h2
        have hl := of_decide_eq_true c
        obtain ⟨p, xs, rfl, hs, rl⟩ := items_rep S z r
        have fin := gNames_go (Q := Q) hv hl rl E q
        rcases hs with hs | hs
        · exact .inr ⟨p, xs, rfl, hs, by rw [rl.length]; exact hl, fin⟩
        · exact .inl ⟨p, xs, rfl, hs, by rw [rl.length]; exact hl, fin⟩
/-- the turns: n is the new list's place -/
def lcG (it : IT) (t : CT) (tt : GT) (te : GE) (n : Nat) (ρ : En) : Nat → Nat → Sto → Option Sto
  | 0, _, _ => none
  | m + 1, i, s => match it i s with
    | none => none
    | some none => some s
    | some (some d) => (match t.put d ρ s with
      | none => none
      | some ρ1 => (match tt ρ1 s with
        | .ok true s1 => (match te ρ1 s1 with
          | .ok y s2 => (match lst? s2 n with
            | some acc => if decide (acc.length < line) then lcG it t tt te n ρ m (i + 1) (s2.set n (.lst (acc ++ [y]))) else none
            | none => none)
          | _ => none)
        | .ok false s1 => lcG it t tt te n ρ m (i + 1) s1
        | _ => none))
def gLc (fi : FI) (t : CT) (tt : GT) (te : GE) (vs : List Nat) : GE := fun ρ s => (fi ρ s).bind fun it s1 => match lcG it t tt te s1.length (wipeD ρ vs) lots 0 (s1 ++ [.lst []]) with
  | some s2 => .ok (.ref s1.length) s2
  | none => .bad
abbrev W0 : WX := fun _ _ _ _ => False
/-- a comprehension's block -/
abbrev Blk (X : Cx) (scope : Scope) (P : Cx → Prop) : Prop := ∀ (s : Shared) (H : Hp) (C : Addr) (cl : List (Str × Addr)) (fp : List Addr), P (X.blk s H scope (compEnvC scope cl C X.env) fp)
/-- one reading for every block -/
theorem blk_e {scope : Scope} (h : Blk X scope fun Y => JE Y W0 e ga) : ∃ t, Blk X scope (fun Y => PE Y e t) ∧ RefE X.K W0 t ga :=
  ⟨fun σ H Q => ∀ s H1 C cl fp, Classical.choose (h s H1 C cl fp) σ H Q, fun s H1 C cl fp => ⟨fun pins s' σ H' Q I q => (Classical.choose_spec (h s H1 C cl fp)).1.run pins s' σ H' Q I (q s H1 C cl fp)⟩,
    fun ρ s σ α H Q E S q s1 H1 C cl fp => (Classical.choose_spec (h s1 H1 C cl fp)).2 ρ s σ α H Q E S q⟩
def JTs (X : Cx) (W : WX) (ifs : List Expr) (g : GT) : Prop := ∃ t, PTs X ifs t ∧ RefT X.K W t g
theorem blk_t {scope : Scope} {ifs : List Expr} (h : Blk X scope fun Y => JTs Y W0 ifs ta) : ∃ t, Blk X scope (fun Y => PTs Y ifs t) ∧ RefT X.K W0 t ta :=
  ⟨fun σ H Q => ∀ s H1 C cl fp, Classical.choose (h s H1 C cl fp) σ H Q, fun s H1 C cl fp => ⟨fun pins s' σ H' Q I q => (Classical.choose_spec (h s H1 C cl fp)).1.run pins s' σ H' Q I (q s H1 C cl fp)⟩,
    fun ρ s σ α H Q E S q s1 H1 C cl fp => (Classical.choose_spec (h s1 H1 C cl fp)).2 ρ s σ α H Q E S q⟩
def gYes : GT := fun _ s => .ok true s
theorem jts_nil : JTs X W [] gYes := ⟨_, pts_nil, fun ρ s σ α H Q E S h => Post.here h S rfl⟩
/-- the target of a comprehension -/
def JCT (X : Cx) (tg : Expr) (t : CT) : Prop := PG X tg (t.tg X.K)
theorem jct_tup {is : List Nat} {k : Nat} (hc : X.calm = true) (hg : PGs X es (gNames is)) (hn : (assignEach es X.env).length = is.length := by rfl) (hst : (assignEach es X.env).findIdx? (·.1) = none := by rfl) : JCT X (.Tuple es k pos) (.tup is) :=
  PG.or (pg_tup hc hg hn hst) (pg_lst hc hg hn hst)
/-- the raise of a source ahead: a comprehension's source may raise, its turns not -/
theorem ref_lc {wi : TI} {fi : FI} {t : CT} {tt : TT} {te : TE} {vs : List Nat} (hv : ∀ i ∈ t.vs, i ∈ vs) (q1 : ∀ ρ s σ α H R, ERel K α H ρ σ → SOk K α H s → Post K (ItRel K) W α H σ (fi ρ s) R → wi σ H R)
    (q2 : RefT K W0 tt ta) (q3 : RefE K W0 te ga) : RefE K W (tLc wi (t.tg K) tt te vs) (gLc fi t ta ga vs) := fun ρ s σ α H Q E S h => by
  refine q1 ρ s σ α H _ E S (Post.bind h fun it s1 J α1 H1 l1 S1 R1 h1 => ?_)
  have h2 : Post K (Rep K) W α1 H1 σ (match lcG it t ta ga s1.length (wipeD ρ vs) lots 0 (s1 ++ [.lst []]) with
    | some s2 => .ok (.ref s1.length) s2
    | none => .bad) Q := h1
  cases z : lcG it t ta ga s1.length (wipeD ρ vs) lots 0 (s1 ++ [.lst []]) with
  | none => rw [z] at h2; exact h2.elim
  | some s2 =>
    rw [z] at h2
    have h3 : Post K (Rep K) W α1 H1 σ (.ok (.ref s1.length) s2) Q := h2
    intro L hL
    obtain ⟨SL, lL⟩ := S1.alloc (o := .lst []) (u := .lst []) hL fun α' H' l q => ⟨[], q, rfl⟩
    have eL : (α1 ++ [L])[s1.length]? = some L := by
      rw [← S1.len, List.getElem?_append_right (Nat.le_refl _), Nat.sub_self]
      rfl
    refine ⟨fun i m H2 => ∃ s3 α3, Le K (α1 ++ [L]) (upd H1 L (.lst [])) α3 H2 ∧ SOk K α3 H2 s3 ∧ lcG it t ta ga s1.length (wipeD ρ vs) m i s3 = some s2, ⟨lots, _, _, Le.refl, SL, z⟩, ?_⟩
    rintro i m H2 ⟨s3, α3, l3, S3, e3⟩
    cases m with
    | zero => cases e3
    | succ m =>
      have hit := R1 i α3 H2 s3 (lL.trans l3) S3
      have E3 : ERel K α3 H2 (wipeD ρ vs) (wipe σ vs) := wipe_rel (E.mono (l1.trans (lL.trans l3))) vs
      unfold lcG at e3
      cases zi : it i s3 with
      | none => rw [zi] at e3; cases e3
      | some w =>
        rw [zi] at e3 hit
        cases w with
        | none =>
          have e4 : some s3 = some s2 := e3
          cases e4
          exact .inl ⟨hit, h3 _ α3 H2 (lL.trans l3) S3 ⟨L, l3.get eL, rfl⟩⟩
        | some d =>
          obtain ⟨hgo, hy⟩ := hit
          refine .inr ⟨hgo, fun H' => ∃ s3 α3, Le K (α1 ++ [L]) (upd H1 L (.lst [])) α3 H' ∧ SOk K α3 H' s3 ∧ lcG it t ta ga s1.length (wipeD ρ vs) m (i + 1) s3 = some s2, fun H' w => ⟨m, Nat.lt_succ_self m, w⟩, fun x H3 hx => ?_⟩
          obtain ⟨l4, S4, R4⟩ := hy x H3 hx
          cases zt : t.put d (wipeD ρ vs) s3 with
          | none => simp only [zt] at e3; cases e3
          | some ρ1 =>
            simp only [zt] at e3
            refine CT.run hv S4 (E3.mono l4) R4 zt fun σ4 E4 w4 => ⟨w4.trans (by rw [wipe_twice]), ?_⟩
            cases zc : ta ρ1 s3 with
            | bad => simp only [zc] at e3; cases e3
            | err ee s5 => simp only [zc] at e3; cases e3
            | ok bb s5 =>
              refine q2 ρ1 s3 σ4 α3 H3 _ E4 S4 (by
                rw [zc]
                intro b5 α5 H5 l5 S5 R5
                cases R5
                simp only [zc] at e3
                cases bb with
                | false =>
                  show (if false = true then _ else ∃ s3 α3, Le K (α1 ++ [L]) (upd H1 L (.lst [])) α3 H5 ∧ SOk K α3 H5 s3 ∧ lcG it t ta ga s1.length (wipeD ρ vs) m (i + 1) s3 = some s2)
                  rw [if_neg Bool.false_ne_true]
                  exact ⟨s5, α5, (l3.trans l4).trans l5, S5, e3⟩
                | true =>
                  rw [if_pos rfl]
                  cases ze : ga ρ1 s5 with
                  | bad => simp only [ze] at e3; cases e3
                  | err ee s6 => simp only [ze] at e3; cases e3
                  | ok y s6 =>
                    simp only [ze] at e3
                    refine q3 ρ1 s5 σ4 α5 H5 _ (E4.mono l5) S5 (by
                      rw [ze]
                      intro v6 α6 H6 l6 S6 R6
                      cases zl : lst? s6 s1.length with
                      | none => simp only [zl] at e3; cases e3
                      | some acc =>
                        simp only [zl] at e3
                        cases cc : decide (acc.length < line) with
                        | false => simp only [cc] at e3; cases e3
                        | true =>
                          simp only [cc, if_true] at e3
                          have lz := ((l3.trans l4).trans l5).trans l6
                          have e7 := lz.get eL
                          obtain ⟨p, xs, ep, ea, es, hp, rl⟩ := S6.lst zl ⟨L, e7, rfl⟩
                          cases ep
                          refine ⟨xs, hp, ?_, ?_⟩
                          · rw [rl.length]
                            exact Nat.lt_of_lt_of_le (of_decide_eq_true cc) (by decide)
                          · obtain ⟨S7, l7⟩ := S6.write (u := .lst xs) (u' := .lst (xs ++ [v6])) (o' := .lst (acc ++ [y])) es ea hp rfl rfl (fun _ z => by cases z) (fun _ _ z => by cases z) fun H' l z => ⟨_, z, RepL.monoT l (rl.append ⟨v6, [], rfl, R6, rfl⟩)⟩
                            exact ⟨_, α6, lz.trans l7, S7, e3⟩))
/-- y = [..] -/
theorem js_setLc {i : Nat} {y : Str} {py : Pos} {elt tg iter : Expr} {ifs : List Expr} {scope : Scope} {own : List (Str × Nat)} {fi : FI} {t : CT} {spos : Pos} (hc : X.calm = true) (hN : X.N.Nodup) (hi : JI X W tg iter fi) (ok : BlkOk X.N X.env.scope scope own) (hv : ∀ i ∈ t.vs, i ∈ own.map (·.2))
    (hg : Blk X scope fun Y => JCT Y tg t) (ht : Blk X scope fun Y => JTs Y W0 ifs ta) (he : Blk X scope fun Y => JE Y W0 elt ga) (hsw : swapsWith (.ListComp elt [⟨tg, iter, ifs, 0⟩] scope pos) (some (.Name y py)) spos.line X.env = pure true)
    (hy : X.N[i]? = some y := by rfl) (hyl : X.env.scope.names.lookup y = some .local := by rfl)
    (hs : ∀ x, foldedSetIterable iter X.env x = pure x := by intro _; rfl) : JS X W (.Assign [.Name y py] (.ListComp elt [⟨tg, iter, ifs, 0⟩] scope pos) spos) (gSet i (gLc fi t ta ga (own.map (·.2)))) := by
  obtain ⟨wi, p1, q1⟩ := hi
  obtain ⟨tt, p2, q2⟩ := blk_t ht
  obtain ⟨te, p3, q3⟩ := blk_e he
  refine ⟨_, ps_setLc (g := t.tg X.K) hc hN hy hyl hsw p1 ok (fun s H C cl fp => hg s H C cl fp) p2 p3 hs, fun ρ s σ α H D E S h => ref_lc hv q1 q2 q3 ρ s σ α H _ E S (SPost.st E h fun d s1 v α1 H1 l S1 R h1 => h1 _ α1 H1 Le.refl S1 ((E.mono l).set R))⟩

/-! ### a def as a function over data -/
/-- what a call promises -/
def spG (K : PySem.W.Frag) (n : Nat) (m : Fn) : Sp := fun vs H Q E => ∃ ds α s, vs.length = n ∧ RepL K α H ds vs ∧ SOk K α H s ∧ Post K (Rep K) (fun c d _ H' => E c d H') α H [] (m ds s) Q
def startD (n : Nat) (ds : List D) : En := ds.map some ++ List.replicate (n - ds.length) none
/-- a body run: n slots, p parameters -/
def run (n p : Nat) (b : GS) : Fn := fun ds s => if decide (ds.length = p) then (match b (startD n ds) s with
  | .nx _ s' => .ok .non s'
  | .rt d s' => .ok d s'
  | .err e _ s' => .err e s'
  | _ => .bad) else .bad
theorem start_rel {ds : List D} {vs : List V} (r : RepL K α H ds vs) (N : List Str) : ERel K α H (startD N.length ds) (L2.start N vs) := by
  refine ⟨?_, fun i d e => ?_⟩
  · unfold startD L2.start
    rw [List.length_append, List.length_append, List.length_map, List.length_map, List.length_replicate, List.length_replicate, r.length]
  · unfold startD at e
    by_cases h : i < ds.length
    · rw [List.getElem?_append_left (by rw [List.length_map]; exact h), List.getElem?_map] at e
      cases z : ds[i]? with
      | none => rw [z] at e; cases e
      | some d' =>
        rw [z] at e
        cases e
        obtain ⟨v, g1, g2⟩ := r.get z
        refine ⟨v, ?_, g2⟩
        unfold L2.start
        rw [List.getElem?_append_left (by rw [List.length_map, r.length]; exact h), List.getElem?_map, g1]
        rfl
    · rw [List.getElem?_append_right (by rw [List.length_map]; exact Nat.le_of_not_lt h), List.getElem?_replicate] at e
      split at e <;> cases e
end
/-- a def by its name: what stands there is the function m -/
structure Fg (P : Program) (w : World) (K : PySem.W.Frag) (mg : Str → Option Value) (base : Heap) (x : Str) (ps : List Str) (k : Nat) (m : Fn) : Prop where
  ex : ∃ f fd, mg x = some (.ref f) ∧ PySem.W.keepIn K (.ref f) = true ∧ Binds K fd ps [] ∧ FnOk P w K mg base (L2.CX P w) k f fd ps (spG K ps.length m)
  len : ∀ ds s, m ds s ≠ .bad → ds.length = ps.length
theorem run_len {n p : Nat} {b : GS} {ds : List D} {s : Sto} (h : run n p b ds s ≠ .bad) : ds.length = p := by
  unfold run at h
  cases c : decide (ds.length = p) with
  | true => exact of_decide_eq_true c
  | false =>
    rw [c] at h
    exact absurd rfl h
section
variable {P : Program} {w : World} {K : PySem.W.Frag} {mg : Str → Option Value} {base : Heap}
theorem fn_body {x qual : Str} {params : Arguments} {body : List Stmt} {scope : Scope} {dvs : List V} {kws : List (Str × V)} {f : Addr} {fd : FuncData} {N ps : List Str} {k n p : Nat} {gb : GS}
    (F : FunD K x qual params body scope dvs kws f fd) (S : FnScope N ps scope) (hn : N.length = n) (hp : ps.length = p)
    (hb : ∀ (cdv : Value) (A : Around) (outer : List Env) (s : Shared) (H : Hp) (E : XK) (X : Cx), X = cxOf (L2.CX P w) P w K mg base N qual scope f cdv A outer s H E → Room k X.A → Takes X (fun c d _ H => E c d H) → PassesOwn (model X.prog X.w) X.A X.env X.xe →
      JB X (fun c d _ H => E c d H) body gb) : FnOk P w K mg base (L2.CX P w) (k + 1) f fd ps (spG K ps.length (run n p gb)) := by
  refine F.ok S (fun vs H Q E h => ?_) (fun cdv A outer s H vs Q E hr h => ?_)
  · obtain ⟨ds, α, s, h1, _⟩ := h
    exact h1
  · obtain ⟨ds, α, st, h1, h2, h3, h4⟩ := h
    obtain ⟨t, p1, q1⟩ := hb cdv A outer s H E _ rfl hr (takes_of rfl rfl rfl rfl) (passes_of rfl)
    refine ⟨t, p1, q1 (startD n ds) st (L2.start N vs) α H _ (by rw [← hn]; exact start_rel h2 N) h3 ?_⟩
    have h5 : Post K (Rep K) (fun c d _ H' => E c d H') α H [] (if decide (ds.length = p) then (match gb (startD n ds) st with
      | .nx _ s' => .ok .non s'
      | .rt d s' => .ok d s'
      | .err e _ s' => .err e s'
      | _ => .bad) else .bad) Q := h4
    cases c : decide (ds.length = p) with
    | false => rw [c] at h5; exact h5.elim
    | true =>
      rw [c, if_pos rfl] at h5
      cases z : gb (startD n ds) st with
      | nx ρ s' => rw [z] at h5; exact fun σ' α' H' l S' E' => h5 .non α' H' l S' rfl
      | rt d s' => rw [z] at h5; exact h5
      | err e ρ s' => rw [z] at h5; exact fun c dd σ' α' H' l S' E' R => h5 c dd α' H' l S' R
      | bk ρ s' => rw [z] at h5; exact h5.elim
      | ct ρ s' => rw [z] at h5; exact h5.elim
      | bad => rw [z] at h5; exact h5.elim
theorem Fg.of {x : Str} {f : Addr} {fd : FuncData} {ps : List Str} {k n p : Nat} {gb : GS} (hm : mg x = some (.ref f)) (hk : PySem.W.keepIn K (.ref f) = true) (hb : Binds K fd ps []) (hp : ps.length = p)
    (F : FnOk P w K mg base (L2.CX P w) k f fd ps (spG K ps.length (run n p gb))) : Fg P w K mg base x ps k (run n p gb) := ⟨⟨f, fd, hm, hk, hb, F⟩, fun ds s h => (run_len h).trans hp.symm⟩
end
section
variable {X : Cx} {W : WX} {e a b c o i : Expr} {es rest : List Expr} {ga gb gc go gi : GE} {gl : GA} {pos p apos : Pos} {K : PySem.W.Frag} {α : List Addr} {H : Hp} {s : Sto}
def gCall (m : Fn) (g : GA) : GE := fun ρ s => (g ρ s).bind m
theorem je_call {x : Str} {ps : List Str} {k : Nat} {m : Fn} (F : Fg X.prog X.w X.K X.mg X.base x ps k m) (hr : Room k X.A) (tk : Takes X W) (ha : JA X W (e :: es) gl) (hg : Gl X x := by rfl)
    (hdb : (x == ("__debug__" : Str)) = false := by decide) (he : starEach (e :: es) X.env = (false, eval e X.env) :: starEach es X.env := by rfl) (hpl : (backTo pos (starEach es X.env)).any (·.1) = false := by rfl) :
    JE X W (.Call (.Name x p) (e :: es) [] pos) (gCall m gl) := by
  obtain ⟨f, fd, h1, h2, h3, h4⟩ := F.ex
  obtain ⟨t, p1, q1⟩ := ha
  refine ⟨_, pe_callS h4 hr hg h1 h2 h3 (fun σ => passAt tk σ) p1 hdb he hpl, fun ρ s σ α H Q E S h => ?_⟩
  have hb := h
  unfold gCall at h
  cases z : gl ρ s with
  | bad => rw [z] at h; exact h.elim
  | err ee s1 => rw [z] at h; exact q1 ρ s σ α H _ E S (by rw [z]; exact h)
  | ok l s1 =>
    rw [z] at h
    have hlen : l.length = ps.length := F.len l s1 fun zb => by
      have h2 : Post X.K (Rep X.K) W α H σ (m l s1) Q := h
      rw [zb] at h2
      exact h2
    refine q1 ρ s σ α H _ E S (by
      rw [z]
      intro vs α1 H1 l1 S1 R1
      refine ⟨l, α1, s1, by rw [R1.length]; exact hlen, R1, S1, ?_⟩
      have h2 : Post X.K (Rep X.K) W α1 H1 σ (m l s1) Q := Post.mono l1 h
      cases zz : m l s1 with
      | ok d s2 => rw [zz] at h2; exact h2
      | err ee s2 => rw [zz] at h2; exact h2
      | bad => rw [zz] at h2; exact h2)
end
end PD

/-! Pd6: raising, instances, the head's facts, a law's end. -/
namespace PD
open PySem L2
section
variable {X : Cx} {W : WX} {K : PySem.W.Frag} {α α' α1 α2 : List Addr} {H H' H1 H2 : Hp} {s s' s1 s2 : Sto} {ρ ρ' : En} {σ σ' : L2.St}
variable {e a b c o i : Expr} {es rest : List Expr} {ga gb gc go gi : GE} {gl : GA} {ta tb : GT} {pos p apos : Pos} {stm : Stmt} {sts body : List Stmt} {gs gr : GS}
/-! ### a list, a tuple or a text is walked -/
def gItA (a : GE) : FI := fun ρ s => (a ρ s).bind fun x s1 => match x with
  | .str z => .ok (itTxt z) s1
  | x => (match items? s1 x with
    | some _ => .ok (itSeq x) s1
    | none => .bad)
theorem ji_any {tg : Expr} (ha : JE X W a ga) : JI X W tg a (gItA ga) := by
  obtain ⟨t1, p1, q1⟩ := ji_seq (tg := tg) ha
  obtain ⟨t2, p2, q2⟩ := ji_txt (tg := tg) ha
  refine ⟨_, PI.or p1 p2, fun ρ s σ α H R E S h => ?_⟩
  cases z : ga ρ s with
  | bad =>
    unfold gItA at h
    rw [z] at h
    exact h.elim
  | err ee s1 =>
    refine .inl (q1 ρ s σ α H R E S ?_)
    unfold gItA at h
    unfold gIt
    rw [z] at h ⊢
    exact h
  | ok d s1 =>
    cases d with
    | str y =>
      refine .inr (q2 ρ s σ α H R E S ?_)
      unfold gItA at h
      unfold gItTxt
      rw [z] at h ⊢
      exact h
    | _ =>
      refine .inl (q1 ρ s σ α H R E S ?_)
      unfold gItA at h
      unfold gIt
      rw [z] at h ⊢
      exact h
/-! ### comparisons as tests -/
def gTb (a : GE) : GT := fun ρ s => (a ρ s).bind fun x s1 => match x with
  | .bl b => .ok b s1
  | _ => .bad
theorem ref_test {t : TE} (q : RefE K W t ga) : RefT K W (tTest t) (gTb ga) := fun ρ s σ α H Q E S h => q ρ s σ α H _ E S (Post.bind h fun d s1 v α1 H1 l1 S1 R1 h1 => by
  cases d with
  | bl k =>
    cases R1
    exact ⟨k, rfl, Post.here h1 S1 rfl⟩
  | _ => exact h1.elim)
theorem jt_cmp {op : CmpOp} {o : Op2} (ho : JO X (compareOp op) o) (ha : JE X W a ga) (hb : JE X W b gb) (hm : behindInMarks op b = false) : JT X W (.Compare a [op] [b] pos) (gTb (gOp (quiet o) ga gb)) := by
  obtain ⟨r, p, q⟩ := ho
  obtain ⟨ta, pa, qa⟩ := ha
  obtain ⟨tb, pb, qb⟩ := hb
  exact ⟨_, pt_cmpR p pa pb hm, ref_test (ref_op qa qb fun x y d e α H s σ Q S R1 R2 h => q x y d e α H s Q S R1 R2 (Post.still h))⟩
/-! ### raise C("..") -/
structure Xg (K : PySem.W.Frag) (mg : Str → Option Value) (x : Str) : Prop where
  at_ : mg x = some (.ref (He.ga K x))
  ex : PySem.W.excIn K (He.ga K x) He.veBase "ValueError.__new__" = true ∧ PySem.W.keepIn K (.ref (He.ga K x)) = true ∧ PySem.W.subIn K (.ref (He.ga K x)) (.type "BaseException") = some true ∧ PySem.W.typeIn K (.ref (He.ga K x)) = some (.type "type")
/-! ### instances of own classes -/
def ins? (s : Sto) : D → Option (Str × List (Str × D))
  | .ref n => (match s[n]? with
    | some (.ins c fs) => some (c, fs)
    | _ => none)
  | _ => none
def fldD (fs : List (Str × D)) (f : Str) : Option D := valD fs f
theorem lookup_val : ∀ (fv : List (Str × V)) (f : Str), fv.lookup f = valV fv f
  | [], f => rfl
  | (g, v) :: r, f => by
    by_cases e : g = f
    · subst e
      have e0 : (g == g) = true := beq_self_eq_true g
      have e1 : valV ((g, v) :: r) g = some v := valV_pos (p := (g, v)) rfl
      rw [e1, List.lookup_cons, e0]
    · have e2 : (f == g) = false := by
        rw [beq_eq_false_iff_ne]
        exact fun z => e z.symm
      have e1 : valV ((g, v) :: r) f = valV r f := valV_neg (p := (g, v)) e
      rw [e1, ← lookup_val r f, List.lookup_cons, e2]
/-- an attribute -/
structure Ag (K : PySem.W.Frag) (f : Str) (cs : List Str) : Prop where
  ok : ∀ c ∈ cs, Cls K (He.ga K c) ∧ NoAttr K (He.ga K c) f
def gFld (cs : List Str) (f : Str) (o : GE) : GE := fun ρ s => (o ρ s).bind fun x s1 => match ins? s1 x with
  | some (c, fs) => if decide (c ∈ cs) then (match fldD fs f with
    | some d => .ok d s1
    | none => .bad) else .bad
  | none => .bad
end
/-- a method of a class by its name -/
structure Mg (P : Program) (w : World) (K : PySem.W.Frag) (mg : Str → Option Value) (base : Heap) (c m : Str) (ps : List Str) (k : Nat) (fn : Fn) : Prop where
  cls : Cls K (He.ga K c)
  ex : ∃ f fd, Meth K (He.ga K c) m f ∧ Binds K fd ps [] ∧ FnOk P w K mg base (L2.CX P w) k f fd ps (spG K ps.length fn)
  len : ∀ ds s, fn ds s ≠ .bad → ds.length = ps.length
section
variable {X : Cx} {W : WX} {K : PySem.W.Frag} {α α' α1 α2 : List Addr} {H H' H1 H2 : Hp} {s s' s1 s2 : Sto} {ρ ρ' : En} {σ σ' : L2.St}
variable {e a b c o i : Expr} {es rest : List Expr} {ga gb gc go gi : GE} {gl : GA} {ta tb : GT} {pos p apos : Pos}
def gMeth (m : Str) (tab : List (Str × Fn)) (o : GE) (g : GA) : GE := fun ρ s => (o ρ s).bind fun x s1 => match ins? s1 x with
  | some (c, fs) => (match tab.find? (fun q => decide (q.1 = c)), fldD fs m with
    | some (c', fn), none => if decide (c' = c) then (g ρ s1).bind fun l s2 => fn (x :: l) s2 else .bad
    | _, _ => .bad)
  | none => .bad
theorem PE.ex {β : Type} {t : β → TE} {p : β → Prop} (h : ∀ y, p y → PE X e (t y)) : PE X e (fun σ H Q => ∃ y, p y ∧ t y σ H Q) := ⟨fun pins s σ H Q I q => by
  obtain ⟨y, hy, q⟩ := q
  exact (h y hy).run pins s σ H Q I q⟩
/-- how a method's call is told -/
abbrev MCall (X : Cx) (o : Expr) (m : Str) (es : List Expr) (apos pos : Pos) (pl : Sem Bool) : Prop :=
  eval (.Call (.Attribute o m apos) es [] pos) X.env = (do let ov ← eval o X.env; standAt apos.atName; let (f, first) ← holding [ov] (getMethod ov m pl); callWith pos f first (backTo pos (starEach es X.env)) (backToKw pos (keywordEach [] X.env)))
end
end PD

/-! Pd7: a law's end over a head by facts. -/
namespace PD
open PySem L2
/-- facts of the top besides: a class made by object's own __init__ -/
inductive EF where
  | oini (c : Str)
  | exis (x : Str)
  | iso (x : Str)
  | kitT (x : Str) (t : String) (b : Bool)
  | kitC (x y : Str) (b : Bool)
  | xfd (x f : Str)
  | oex (c P f g : Str)
  | tup (x : Str) (l : List Str)
/-- an own exception class whose __init__ is its own -/
def oexB (K : PySem.W.Frag) (C : Addr) : Bool := match K.lookup C with
  | some ⟨.type "type", _, .cls cd, sl⟩ => (match cd.mro, sl.toList with
    | .ref C' :: bm, [_, _, _, _, some (.builtin n), _] => C' == C && (n == "ValueError.__new__" && (!cd.hasDel && (cd.hasDict && PySem.HandSPX.refsVE bm)))
    | _, _ => false)
  | _ => false
def veInit : Option PySem.W.CFound → Bool
  | some (.val (.builtin i)) => i == "ValueError.__init__"
  | _ => false
def EF.ok (K : PySem.W.Frag) : EF → Bool
  | .oini c => PySem.W.makesIn K (He.ga K c) && (He.eqO (PySem.W.findIn K (.ref (He.ga K c)) "__init__") (some (some (.builtin "object.__init__"))) && (PySem.W.keepIn K (.ref (He.ga K c)) && decide (PySem.W.mroIn K (He.ga K c) (.type "object") = some true)))
  | .exis x => He.eqO (PySem.W.findIn K (.ref (He.ga K x)) "__getattribute__") (some (some (.builtin "BaseException.__getattribute__"))) && (He.eqO (PySem.W.findIn K (.ref (He.ga K x)) "__getattr__") (some none) && (decide (PySem.W.subIn K (.ref (He.ga K x)) (.type "BaseException") = some true) && (PySem.W.hasDictIn K (He.ga K x) &&
      (He.eqO (PySem.W.findIn K (.ref (He.ga K x)) "__class__") (some (some (.builtin "object.__class__"))) && (He.eqO (PySem.W.specialIn K (.builtin "object.__class__") "__get__") (some (some (.builtin "getset_descriptor.__get__"))) && (decide (PySem.W.takesIn K (.builtin "object.__class__") = some true) && decide (PySem.W.mroIn K (He.ga K x) (.type "object") = some true)))))))
  | .iso x => He.eqO (PySem.W.findIn K (.ref (He.ga K x)) "__class__") (some (some (.builtin "object.__class__"))) && (He.eqO (PySem.W.specialIn K (.builtin "object.__class__") "__get__") (some (some (.builtin "getset_descriptor.__get__"))) && (decide (PySem.W.takesIn K (.builtin "object.__class__") = some true) && decide (PySem.W.mroIn K (He.ga K x) (.type "object") = some true)))
  | .kitT x t b => decide (PySem.W.kitOne K (.ref (He.ga K x)) (.type t) = some b)
  | .kitC x y b => decide (PySem.W.kitOne K (.ref (He.ga K x)) (.ref (He.ga K y)) = some b)
  | .xfd x f => xfB K (He.ga K x) && He.eqO (PySem.W.findIn K (.ref (He.ga K x)) f) (some none)
  | .oex c P f g => oexB K (He.ga K c) && (He.eqO (PySem.W.findIn K (.ref (He.ga K c)) "__setattr__") (some (some (.builtin "object.__setattr__"))) && (decide (PySem.W.subIn K (.ref (He.ga K c)) (.type "BaseException") = some true) && (decide (PySem.W.typeIn K (.ref (He.ga K c)) = some (.type "type")) && (PySem.W.keepIn K (.ref (He.ga K c)) &&
      (He.eqO (PySem.W.findIn K (.ref (He.ga K c)) f) (some none) && (He.eqO (PySem.W.findIn K (.ref (He.ga K c)) g) (some none) && (He.eqO (PySem.W.findIn K (.ref (He.ga K c)) "__init__") (some (some (.ref (He.fAd K (c, some "__init__"))))) && (decide (PySem.W.typeIn K (.ref (He.fAd K (c, some "__init__"))) = some (.type "function")) &&
      (He.eqO (PySem.W.specialIn K (.ref (He.ga K P)) "__getattribute__") (some (some (.builtin "type.__getattribute__"))) && (decide (PySem.W.typeIn K (.ref (He.ga K P)) = some (.type "type")) && (PySem.W.readsIn K (He.ga K P) (.type "type") && veInit (PySem.W.findCls K (.ref (He.ga K P)) (.type "type") "__init__"))))))))))))
  | .tup x l => He.tupB K x (l.map He.Dv.str)
abbrev AlM : Type := He.AlD × Bool
def valM (fn : List He.DefD) : AlM := (He.valD fn, true)
/-- a def at a name or at a class's method -/
abbrev FunP (K : PySem.W.Frag) (at_ : Str × Option Str) (x q : Str) (st : Stmt) (fd : FuncData) : Prop := FunD K x q (defArgs st) (defBody st) (defScope st) [] [] (He.fAd K at_) fd
/-- no raise is left: the promise for a law's end -/
def spL (K : PySem.W.Frag) (m : Fn) : Sp := fun vs H Q _ => spG K 1 m vs H Q fun _ _ _ => False
theorem fn_calm {P : Program} {w : World} {K : PySem.W.Frag} {mg : Str → Option Value} {base : Heap} {k : Nat} {f : Addr} {fd : FuncData} {x : Str} {m : Fn} (F : FnOk P w K mg base (L2.CX P w) k f fd [x] (spG K 1 m)) : FnOk P w K mg base CX0 k f fd [x] (spL K m) := by
  refine ⟨fun vs H Q E h => F.len vs H Q _ h, fun A outer s H args us vs Q E hr e0 b r h => ?_⟩
  refine codeAny_mono (F.run A outer s H args us vs Q (fun _ _ _ => False) hr e0 b r h) fun res s' q => ?_
  match res, q with
  | .ok (.ret u), q => exact q
  | .ok .next, q => exact q
  | .ok .brk, q => exact q
  | .ok .cont, q => exact q
  | .error e, q =>
    obtain ⟨_, _, _, _, _, _, _, _, _, _, _, _, z⟩ := q
    exact z.elim
theorem law_start {K : PySem.W.Frag} {m : Fn} (pure_ : ∀ ns : List Int, ns.length ≤ 63 → ∃ s', m [.ref 0] [.scr (ns.map D.int)] = .ok (.bl true) s') (H : Hp) (a : Addr) (ns : List Int) (hl : ns.length ≤ 63) (hO : Only H) (hS : SqL K H a (ns.map V.int)) :
    spL K m [.ref a] H (fun v _ => v = .bl true) fun _ _ _ => False := by
  obtain ⟨s', e⟩ := pure_ ns hl
  refine ⟨[.ref 0], [a], [.scr (ns.map D.int)], rfl, ⟨.ref a, [], rfl, ⟨a, rfl, rfl⟩, rfl⟩, ⟨rfl, fun n o h => ?_, fun i j oi oj b hij hi hj mi mj => ?_⟩, ?_⟩
  · cases n with
    | zero =>
      have eo : o = .scr (ns.map D.int) := (Option.some.inj h).symm
      subst eo
      refine ⟨a, rfl, ns.map V.int, ?_, RepL.ints.mpr rfl⟩
      rcases hS with (h1 | ⟨ob, h1⟩) | h1
      · rcases hO a with z | ⟨ob, xs, z⟩
        · rw [h1] at z
          cases z
        · rw [h1] at z
          cases z
      · exact .inl ⟨ob, h1⟩
      · exact .inr h1
    | succ n => cases h
  · cases i with
    | zero =>
      have eo : oi = .scr (ns.map D.int) := (Option.some.inj hi).symm
      subst eo
      cases mi
    | succ n => cases hi
  · rw [e]
    exact fun v α' H' l S R => R
/-- what walk_ofE asks -/
theorem law_end {P : Program} {w : World} {K : PySem.W.Frag} {mg : Str → Option Value} {h : Heap} {fa : Addr} {x lx : Str} {st : Stmt} {k : Nat} {m : Fn} {fd : FuncData} (KX : K.In h) (F : FunP K (lx, none) lx lx st fd) (hfa : mg lx = some (.ref fa)) (hgl : mg lx = some (.ref (He.ga K lx)))
    (hb : ∀ (kV doc pm : Value) (an : Option Addr) (cdv ct : Value) (us : List Value), us.length = [x].length → bindArgs (PySem.W.fnOf lx lx (defArgs st) (defBody st) (defScope st) .none kV doc pm an cdv ct) ⟨us, []⟩ = pure ([x].zip us))
    (ok : ∀ base : Heap, K.In base → base.Ns mainGlobals mg → FnOk P w K mg base (L2.CX P w) k (He.ga K lx) fd [x] (spG K 1 m))
    (pure_ : ∀ ns : List Int, ns.length ≤ 63 → ∃ s', m [.ref 0] [.scr (ns.map D.int)] = .ok (.bl true) s') :
    ∃ (K : PySem.W.Frag) (fd : FuncData) (sp : Sp), K.In h ∧ (∀ (s : Shared) (u : Value), BindsTo s fd ⟨[u], []⟩ [(x, u)]) ∧
        (∀ (H : Hp) (a : Addr) (ns : List Int), ns.length ≤ 63 → Only H → SqL K H a (ns.map V.int) → sp [.ref a] H (fun v _ => v = .bl true) fun _ _ _ => False) ∧
        ∀ base : Heap, K.In base → base.Ns mainGlobals mg → FnOk P w K mg base CX0 k fa fd [x] sp := by
  have e := hfa.symm.trans hgl
  cases e
  exact ⟨K, fd, spL K m, KX, fun s v => F.bindsA hb s [v] rfl, law_start pure_, fun base h1 h2 => fn_calm (ok base h1 h2)⟩
end PD

/-! Pdh: the head's facts over a short list of addresses (found by the names that the law uses). -/
namespace PD
open PySem L2
/-- what is seen from an object, one step: a function's code, a class's names, the things in a dict -/
def hRef (o : Obj) : List Addr := match o.data with
  | .func fd => He.refV fd.code ++ He.refV fd.defaults
  | .cls cd => [cd.ns]
  | .dict es _ => es.toList.flatMap fun e => He.refV e.val
  | _ => []
def hStep (g : Addr → Option Obj) (as : List Addr) : List Addr := as.flatMap fun a => match g a with
  | some o => hRef o
  | none => []
/-- numbers worked out one by one -/
def hFr {α : Type} : List Addr → (List Addr → α) → α
  | [], k => k []
  | a :: r, k => HandSHeadRun.frNat a fun a => hFr r fun r => k (a :: r)
theorem hFr_eq {α : Type} : ∀ (l : List Addr) (k : List Addr → α), hFr l k = k l
  | [], _ => rfl
  | a :: r, k => by
    show HandSHeadRun.frNat a (fun a => hFr r fun r => k (a :: r)) = _
    rw [HandSHeadRun.frNat_eq, hFr_eq r]
def hAs (names : List Str) (g : Addr → Option Obj) : List Addr :=
  let l0 := names.map (He.ga (He.frG g [mainGlobals]))
  let l1 := hStep g l0
  let l2 := hStep g l1
  mainGlobals :: (cStatics :: (l0 ++ (l1 ++ (l2 ++ hStep g l2))))
def obsK (fa : List He.Fa) (fn : List He.DefD) (ef : List EF) (K : PySem.W.Frag) : AlM := (He.obsD fa fn K, ef.all fun f => f.ok K)
def obsW (names : List Str) (fa : List He.Fa) (fn : List He.DefD) (ef : List EF) (g : Addr → Option Obj) : AlM :=
  hFr (names.map (He.ga (He.frG g [mainGlobals]))) fun l0 => hFr (hStep g l0) fun l1 => hFr (hStep g l1) fun l2 => hFr (hStep g l2) fun l3 =>
    obsK fa fn ef (He.frG g (mainGlobals :: (cStatics :: (l0 ++ (l1 ++ (l2 ++ l3))))))
theorem obsW_eq' (names : List Str) (fa : List He.Fa) (fn : List He.DefD) (ef : List EF) (g : Addr → Option Obj) : obsW names fa fn ef g = obsK fa fn ef (He.frG g (hAs names g)) := by
  unfold obsW
  rw [hFr_eq, hFr_eq, hFr_eq, hFr_eq]
  rfl
def hookW (names : List Str) (fa : List He.Fa) (fn : List He.DefD) (ef : List EF) : PySem.W.Hook where
  α := AlM
  obs := fun s => obsW names fa fn ef s.heap.get?
  val := fun _ => valM fn
  says := fun _ h => ∃ K : PySem.W.Frag, K.In h ∧ He.SaysD fa fn K ∧ (ef.all fun f => f.ok K) = true
  of := fun _ _ e => ⟨_, He.frG_in, congrArg (fun z : AlM => z.1) ((obsW_eq' names fa fn ef _).symm.trans e), congrArg (fun z : AlM => z.2) ((obsW_eq' names fa fn ef _).symm.trans e)⟩
  keeps := fun _ _ _ ⟨K, hK, c⟩ k => ⟨K, PySem.W.Frag.In.keeps hK k, c⟩
theorem obsW_eq {names : List Str} {fa : List He.Fa} {fn : List He.DefD} {ef : List EF} {g : Addr → Option Obj} {s : Shared} (h : ∀ a, g a = s.heap.get? a) : obsW names fa fn ef g = (hookW names fa fn ef).obs s := by
  have e : g = s.heap.get? := funext h
  subst e
  rfl
end PD

namespace HW
open PySem L2 PD
def top (i : Nat) : Stmt := PySem.Challenge.pw_pastdesk_k02_undone_told.main.body.getD i (.Pass ⟨0, 0, 0, 0⟩)
def dd_0 : He.DefD := ⟨("_law_deed", none), "_law_deed", "_law_deed", defArgs (top 11), defBody (top 11), defScope (top 11), [], []⟩
def dd_1 : He.DefD := ⟨("_law_whole", none), "_law_whole", "_law_whole", defArgs (top 12), defBody (top 12), defScope (top 12), [], []⟩
def dd_2 : He.DefD := ⟨("_law_bears", none), "_law_bears", "_law_bears", defArgs (top 14), defBody (top 14), defScope (top 14), [], []⟩
def dd_3 : He.DefD := ⟨("_law_alone", none), "_law_alone", "_law_alone", defArgs (top 13), defBody (top 13), defScope (top 13), [], []⟩
def dd_4 : He.DefD := ⟨("_law_by_name", none), "_law_by_name", "_law_by_name", defArgs (top 15), defBody (top 15), defScope (top 15), [], []⟩
def dd_5 : He.DefD := ⟨("_law_by_base", none), "_law_by_base", "_law_by_base", defArgs (top 16), defBody (top 16), defScope (top 16), [], []⟩
def dd_6 : He.DefD := ⟨("law", none), "law", "law", defArgs (top 17), defBody (top 17), defScope (top 17), [], []⟩
def dd_7 : He.DefD := ⟨("Undone", some "__init__"), "__init__", "Undone.__init__", defArgs (inClass (top 6) 0), defBody (inClass (top 6) 0), defScope (inClass (top 6) 0), [], []⟩
def fnl : List He.DefD := [dd_0, dd_1, dd_2, dd_3, dd_4, dd_5, dd_6, dd_7]
def fal : List He.Fa := [.free "ValueError", .free "bool", .free "int", .free "isinstance", .free "len", .free "range", .free "tuple", .glo "_law_deed", .glo "_law_whole", .glo "_law_bears", .glo "_law_alone", .glo "_law_by_name", .glo "_law_by_base", .glo "law", .glo "Bare", .glo "Known", .glo "NoDeed", .glo "NoName", .glo "NoText", .glo "NoTime", .glo "PastError", .glo "Taken", .glo "Undone", .exm "Undone" "PastError" true, .exm "Undone" "Undone" true]
def efl : List EF := [.oex "Undone" "PastError" "at" "deed", .xfd "Undone" "at", .xfd "Undone" "deed", .exis "Undone", .kitC "Undone" "Bare" false, .kitC "Undone" "Known" false, .kitC "Undone" "NoDeed" false, .kitC "Undone" "NoName" false, .kitC "Undone" "NoText" false, .kitC "Undone" "NoTime" false, .kitC "Undone" "PastError" true, .kitC "Undone" "Taken" false, .kitC "Undone" "Undone" true, .kitT "Undone" "ValueError" true]
def loose : List PySem.Str := (["PastError", "NoTime", "NoDeed", "Taken", "Bare", "Undone", "NoText", "NoName", "Known", "_law_deed", "_law_whole", "_law_alone", "_law_bears", "_law_by_name", "_law_by_base"] : List PySem.Str)
abbrev R : PySem.W.OpenRow := PySem.W.OpenLaw.row PySem.Challenge.rw_pastdesk_k02_undone_told
def nms : List PySem.Str := (["PastError", "NoTime", "NoDeed", "Taken", "Bare", "Undone", "NoText", "NoName", "Known", "_law_deed", "_law_whole", "_law_alone", "_law_bears", "_law_by_name", "_law_by_base", "law"] : List PySem.Str)
abbrev hk : PySem.W.Hook := hookW nms fal fnl efl
def ob (s : PySem.W.SharedT) : AlM := obsW nms fal fnl efl (HandSHeadRun.getT s)
theorem ob_eq (s : PySem.W.SharedT) : ob s = hk.obs s.abs := obsW_eq (HandSHeadRun.getT_eq s)
theorem run_ (w : World) : HandSHeadRun.RunEq R (PySem.W.view R.prog [17]) hk ob 60000 loose w := by
  intro os
  kernel_rfl
end HW

/-! Pd8: classes made. -/
namespace PD
open PySem L2
structure Kg (K : PySem.W.Frag) (mg : Str → Option Value) (c : Str) : Prop where
  glo : mg c = some (.ref (He.ga K c))
  makes : PySem.W.makesIn K (He.ga K c) = true
  ini : PySem.W.findIn K (.ref (He.ga K c)) "__init__" = some (some (.builtin "object.__init__"))
  kp : PySem.W.keepIn K (.ref (He.ga K c)) = true
section
variable {X : Cx} {W : WX} {K : PySem.W.Frag} {α α' α1 α2 : List Addr} {H H' H1 H2 : Hp} {s s' s1 s2 : Sto} {ρ ρ' : En} {σ σ' : L2.St}
variable {pos p : Pos}
/-! what no law does -/
end
end PD

/-! Pd9: sorted. -/
namespace PD
open PySem L2
/-! texts -/
/-! the kinds of rows -/
section
variable {X : Cx} {W : WX} {K : PySem.W.Frag} {α α' α1 α2 : List Addr} {H H' H1 H2 : Hp} {s s' s1 s2 : Sto} {ρ ρ' : En} {σ σ' : L2.St}
end
/-! pairs of whole numbers -/
section
variable {X : Cx} {W : WX} {K : PySem.W.Frag} {α α' α1 α2 : List Addr} {H H' H1 H2 : Hp} {s s' s1 s2 : Sto} {σ σ' : L2.St}
/-! sorted(d), any number of keys -/
section
open PySem.Spec PyProof.Rows
variable {X : Cx}
end
/-! the keys of a dict -/
end
end PD

/-! Pd10: pop with an argument, dict(..), range with a step, remove. -/
namespace PD
open PySem L2
section
variable {X : Cx} {W : WX} {K : PySem.W.Frag} {α α' α1 α2 : List Addr} {H H' H1 H2 : Hp} {s s' s1 s2 : Sto} {ρ ρ' : En} {σ σ' : L2.St}
variable {e a b c o i : Expr} {es rest : List Expr} {ga gb gc go gi : GE} {gl : GA} {pos p apos cpos : Pos}
/-! xs.pop(i) -/
/-! d.pop(k) -/
/-! dict(d), dict([(k, v), ..]) -/
/-! range(a, b, c) -/
end
end PD

/-! Pd11: list(range(..)). -/
namespace PD
open PySem L2
section
variable {X : Cx} {W : WX} {K : PySem.W.Frag} {α α' α1 α2 : List Addr} {H H' H1 H2 : Hp} {s s' s1 s2 : Sto} {ρ ρ' : En} {σ σ' : L2.St}
variable {e a b c o i : Expr} {ga gb gc go gi : GE} {pos p p2 pos2 : Pos}
/-! list(d): a dict's keys -/
end
end PD

/-! Pd12: a dict that is walked: it is locked for the statement, the comprehension that walks it. -/
namespace PD
open PySem L2
section
variable {X : Cx} {W : WX} {K : PySem.W.Frag} {α α' α1 α2 : List Addr} {H H' H1 H2 : Hp} {s s' s1 s2 : Sto} {ρ ρ' : En} {σ σ' : L2.St} {DD : Ends}
variable {e a b c o : Expr} {ga gb gc go gi : GE} {pos p p2 pos2 : Pos} {st : Stmt} {gs : GS} {i : Nat}
/-! ### lock, and free again -/
end
end PD

/-! Pd13: a list from its end: l[::-1]. -/
namespace PD
open PySem L2 PyProof.Rows PyProof
section
variable {X : Cx} {W : WX} {K : PySem.W.Frag} {α α' α1 α2 : List Addr} {H H' H1 H2 : Hp} {s s' s1 s2 : Sto} {ρ ρ' : En} {σ σ' : L2.St}
variable {e a st : Expr} {ga : GE} {pos p p2 : Pos} {te : TE} {ts : TO}
end
end PD

/-! Pd14: list(reversed(l)). -/
namespace PySem
open PySem.Spec PyProof.Rows PyProof
section
variable {prog : Program} {w : World} {A : Around} {E : Value → Shared → Prop} {s : Shared}
end
end PySem
namespace PD
open PySem L2 PyProof.Rows PyProof
section
variable {X : Cx} {W : WX} {K : PySem.W.Frag} {α α' α1 α2 : List Addr} {H H' H1 H2 : Hp} {s s' s1 s2 : Sto} {ρ ρ' : En} {σ σ' : L2.St}
end
end PD

/-! Pd15: sorted of a tuple of pairs of whole numbers. -/
namespace SrtO
open PySem PySem.Spec PyProof.Rows Srt
section
variable {prog : Program} {w : World} {A : Around} {E : Value → Shared → Prop} {s : Shared}
end
end SrtO
namespace PD
open PySem L2 PyProof.Rows PyProof
section
variable {X : Cx} {W : WX} {K : PySem.W.Frag} {α α' α1 α2 : List Addr} {H H' H1 H2 : Hp} {s s' s1 s2 : Sto} {σ σ' : L2.St}
end
end PD

/-! Pd16: min of a list of pairs of whole numbers; remove of such a pair. -/
namespace PD
open PySem L2 PyProof.Rows PyProof
section
variable {X : Cx} {W : WX} {K : PySem.W.Frag} {α α' α1 α2 : List Addr} {H H' H1 H2 : Hp} {s s' s1 s2 : Sto} {σ σ' : L2.St}
end
end PD

/-! Pd17: sorted by key= where the key's calls may make things: the fold, over any invariant. -/
namespace PD
open PySem PySem.W PySem.Calls PyProof.Rows
def IsI (v : Value) (n : Int) : Prop := ∃ t, v = .int n t
section
variable {prog : Program} {w : World} {A : Around} {E : Value → Shared → Prop} {s : Shared} {a kS : Addr} {vs : List Value} {e1 : Nat} {P : PySem.Fin → Shared → Prop} {bs : List (Int × Int)}
/-- the two objects of the sorting, as they stand in the turns -/
structure Two (a kS : Addr) (e1 : Nat) (ks : List Int) (h : Heap) : Prop where
  at_ : h.get? a = some (seqObj "list" #[] e1)
  ks_ : ∃ kA e, h.get? kS = some (seqObj "list" kA e) ∧ EachIs IsI kA.toList ks
end
open L2
/-- what is known in the turns, of the state ahead of the call -/
structure Amid (X : Cx) (s : Shared) (H : Hp) (a kS : Addr) (H' : Hp) (s' : Shared) : Prop where
  os : s'.os = s.os
  bare : AllBare s'.gens
  un : Un (frs X.stack) [] H H' s.heap s'.heap
  hok : HOk X.prog X.w H' s'.heap
  na : H' a = none
  nk : H' kS = none
section
variable {X : Cx} {pins : List (Addr × Obj)} {σ : L2.St} {H : Hp} {s : Shared} {Q : VK} {l f : Addr} {bs : List (Int × Int)}
end
end PD

/-! Pd18: sorted([..], key=lambda y: ..): the lambda, its calls, the whole reading. -/
namespace PD
open PySem L2 LamX NdefX PyProof.Rows
/-! ### the lambda's calls -/
section
variable {P : Program} {w : World} {K : PySem.W.Frag} {mg : Str → Option Value} {base : Heap} {CX : CXT} {k : Nat} {N fr : List Str} {y q : Str} {params : Arguments} {body : Expr} {scope : Scope} {cl : List (Str × Addr)} {f c' : Addr} {pm ctv : Value}
end
/-! ### the reading -/
section
variable {K : PySem.W.Frag} {α α' : List Addr} {H H' : Hp} {s : Sto} {ρ : En} {σ : L2.St}
end
end PD

/-! Pd19: sorted([..], key=lambda y: ..), the rule. -/
namespace PD
open PySem L2 LamX NdefX PyProof.Rows
section
variable {X : Cx} {W : WX} {e : Expr} {ga gb : GE} {x y : Str} {N fr : List Str} {js : List Nat} {k : Nat} {params : Arguments} {body : Expr} {scope : Scope} {p lpos kpos pos : Pos} {c : Addr}
end
end PD

/-! Pd20: a law's end where defs make lambdas: the head's facts, the tables of code objects. -/
namespace PD
open PySem L2 LamX NdefX PyProof.Rows
/-! ### the head: the written part without the tables -/
/-! ### the end -/
/-! ### a def that makes lambdas -/
section
variable {P : Program} {w : World} {K : PySem.W.Frag} {mg : Str → Option Value} {base : Heap}
end
end PD

/-! Pd22: try .. except C: (no name, suites that call nothing and raise nothing), and with else. -/
namespace PD
open PySem L2
/-- what a suite can't do: raise -/
def RS.still (r : RS) : RS := match r with
  | .err _ _ _ => .bad
  | r => r
/-- the reading of a block, by what it computes -/
def canonS (K : PySem.W.Frag) (W : WX) (g : GS) : TS := fun D σ H => ∃ ρ s α, ERel K α H ρ σ ∧ SOk K α H s ∧ SPost K W α H (g ρ s) D
def wNone : WX := fun _ _ _ _ => False
/-- of the classes of a list, whether the clause 'except x' takes them -/
def Xm (K : PySem.W.Frag) (x : Str) (l : List Str) (b : Bool) : Prop := ∀ c ∈ l, PySem.W.exmOne K (.ref (He.ga K c)) (.ref (He.ga K x)) = some b
theorem Xm.nil {K : PySem.W.Frag} {x : Str} {b : Bool} : Xm K x [] b := fun c h => (nomatch h)
theorem Xm.cons {K : PySem.W.Frag} {x c : Str} {l : List Str} {b : Bool} (h : PySem.W.exmOne K (.ref (He.ga K c)) (.ref (He.ga K x)) = some b) (r : Xm K x l b) : Xm K x (c :: l) b := fun d hd => by
  rcases List.mem_cons.mp hd with rfl | hd
  · exact h
  · exact r d hd
section
variable {X : Cx} {W : WX} {K : PySem.W.Frag} {α α' α1 α2 : List Addr} {H H' H1 H2 : Hp} {s s' s1 s2 : Sto} {ρ ρ' : En} {σ σ' : L2.St}
variable {x : Str} {yes no : List Str} {body suite orelse : List Stmt} {b₀ : Stmt} {np pos pos' : Pos} {gb gsu gel : GS}
theorem JB.canon {sts : List Stmt} {g : GS} (h : JB X W sts g) : PSs X sts (canonS X.K W g) := by
  obtain ⟨t, p, q⟩ := h
  exact ⟨fun pins s σ H D I z => by
    obtain ⟨ρ, s0, α, E, S, hp⟩ := z
    exact p.run pins s σ H D I (q ρ s0 σ α H D E S hp)⟩
/-! ### try .. except C as n: y = isinstance(n, T), T a built-in class -/
theorem excC_of {K : PySem.W.Frag} {x : Str} (e : (EF.exis x).ok K = true) : ExcC K (He.ga K x) := by
  unfold EF.ok at e
  obtain ⟨h1, e⟩ := Bool.and_eq_true_iff.mp e
  obtain ⟨h2, e⟩ := Bool.and_eq_true_iff.mp e
  obtain ⟨h3, e⟩ := Bool.and_eq_true_iff.mp e
  obtain ⟨h4, e⟩ := Bool.and_eq_true_iff.mp e
  obtain ⟨h5, e⟩ := Bool.and_eq_true_iff.mp e
  obtain ⟨h6, e⟩ := Bool.and_eq_true_iff.mp e
  obtain ⟨h7, h8⟩ := Bool.and_eq_true_iff.mp e
  exact ⟨He.eqO_ok h1, He.eqO_ok h2, of_decide_eq_true h3, h4, He.eqO_ok h5, He.eqO_ok h6, of_decide_eq_true h7, of_decide_eq_true h8⟩
/-- of the classes of a list, what isinstance(e, T) tells of their exceptions -/
def Xk (K : PySem.W.Frag) (t : String) (l : List Str) (b : Bool) : Prop := ∀ c ∈ l, ExcC K (He.ga K c) ∧ PySem.W.kitOne K (.ref (He.ga K c)) (.type t) = some b
theorem Xk.nil {t : String} {b : Bool} : Xk K t [] b := fun c h => (nomatch h)
theorem Xk.cons {t : String} {c : Str} {l : List Str} {b : Bool} (h : (EF.exis c).ok K = true) (h2 : (EF.kitT c t b).ok K = true) (r : Xk K t l b) : Xk K t (c :: l) b := fun d hd => by
  rcases List.mem_cons.mp hd with rfl | hd
  · exact ⟨excC_of h, of_decide_eq_true h2⟩
  · exact r d hd
theorem ERel.unsetA (h : ERel K α H ρ σ) {i : Nat} {x : Option V} : ERel K α H (ρ.set i none) (σ.set i x) := by
  refine ⟨by rw [List.length_set, List.length_set]; exact h.1, fun j e he => ?_⟩
  rw [List.getElem?_set] at he
  rw [List.getElem?_set]
  by_cases hij : i = j
  · subst hij
    rw [if_pos rfl] at he
    by_cases hl : i < ρ.length
    · rw [if_pos hl] at he
      cases he
    · rw [if_neg hl] at he
      cases he
  · rw [if_neg hij] at he
    rw [if_neg hij]
    exact h.2 j e he
end
end PD

/-! Pd23: for a, b in zip(t, u), t and u tuples. -/
namespace PD
open PySem L2
section
variable {X : Cx} {W : WX} {K : PySem.W.Frag} {α α' α1 α2 : List Addr} {H H' H1 H2 : Hp} {s s' s1 s2 : Sto} {ρ ρ' : En} {σ σ' : L2.St}
end
end PD

/-! Pd24: str of a text. -/
namespace PD
open PySem L2
section
variable {X : Cx}
end
end PD

/-! Pd25: try .. except C as n: the suite asks the exception (isinstance, its fields, defs that are handed it). -/
namespace PD
open PySem L2
/-! ### a caught exception as data: what is asked of it -/
/-- the exception at a, its fields in the dict at od, that dict the on-th thing of the store -/
def hotD (a : Addr) (od : Option Addr) (on : Option Nat) : D := .hot a (match od, on with
  | some dd, some n => some (dd, n)
  | _, _ => none)
/-- what a def computes of an exception -/
abbrev XFn := Exn → Addr → Option Addr → D → Sto → Res D
abbrev XS := Exn → Addr → Option Addr → GS
/-! ### a suite hangs on the exception, not on where it stands -/
def RS.put (i : Nat) (x : Option D) : RS → RS
  | .nx ρ s => .nx (ρ.set i x) s
  | .bk ρ s => .bk (ρ.set i x) s
  | .ct ρ s => .ct (ρ.set i x) s
  | .err e ρ s => .err e (ρ.set i x) s
  | .rt d s => .rt d s
  | .bad => .bad
def IndS (b : Bool) (i : Nat) (g : Addr → Option Addr → GS) : Prop := ∀ (on : Option Nat) (ρ : En) (s : Sto), ∃ r : RS, ∀ a od, od.isSome = b → g a od (ρ.set i (some (hotD a od on))) s = r.put i (some (hotD a od on))
section
variable {b : Bool} {i : Nat}
variable {x y z : Addr → Option Addr → GE} {l : Addr → Option Addr → GA} {t u : Addr → Option Addr → GT} {p q : Addr → Option Addr → GS}
/-! statements -/
/-- what a def tells at its body's end -/
def RS.done : RS → Res D
  | .nx _ s' => .ok .non s'
  | .rt d s' => .ok d s'
  | .err e _ s' => .err e s'
  | _ => .bad
end
end PD

/-! Pd26: the rules of a suite that asks its exception. -/
namespace PD
open PySem L2
section
variable {X : Cx} {W : WX} {K : PySem.W.Frag} {α α' α1 α2 : List Addr} {H H' H1 H2 : Hp} {s s' s1 s2 : Sto} {ρ ρ' : En} {σ σ' : L2.St}
/-! ### the exception's facts in a suite -/
/-- e is the exception at a that the suite of X holds, oe its object, d the dict of its fields -/
structure Hld (X : Cx) (e : Exn) (a : Addr) (oe : Obj) (d : Option Addr) : Prop where
  pin : (a, oe) ∈ X.pn
  zc : Zc (.ref (He.ga X.K e.cls)) d oe
  fs : ∃ vs, oe.data = .fields vs
  same : d.isSome = e.fs.isSome
/-! ### isinstance(e, C) -/
/-! ### e.f -/
end
end PD

/-! Pd27: a def that is handed the exception; try .. except C as n. -/
namespace PD
open PySem L2
abbrev RoomX := L2H.RoomH
/-- a def of one parameter, handed an exception of one of the classes of a list that is handled just then: m -/
structure FnX (P : Program) (w : World) (K : PySem.W.Frag) (mg : Str → Option Value) (base : Heap) (yes : List Str) (k : Nat) (f : Addr) (fd : FuncData) (p : Str) (m : XFn) : Prop where
  run : ∀ (e : Exn) (A : Around) (outer : List Env) (s : Shared) (H : Hp) (args : Args) (a : Addr) (oe : Obj) (d : Option Addr) (dv : D) (α : List Addr) (st : Sto) (Q : VK), e.cls ∈ yes → RoomX k A → L2H.PinOk outer H s (a, oe) → Zc (.ref (He.ga K e.cls)) d oe → (∃ vs, oe.data = .fields vs) →
    d.isSome = e.fs.isSome → Env0 P w K mg base A outer s H → BindsTo s fd args [(p, .ref a)] → Rep K α H dv (.ref a) → SOk K α H st → Post K (Rep K) wNone α H [] (m e a d dv st) Q →
    codeAny (model P w) A (.call (.ref f) args) (CR (L2.CX P w) outer P w H s Q fun _ _ _ => False) s
section
variable {P : Program} {w : World} {K : PySem.W.Frag} {mg : Str → Option Value} {base : Heap}
end
/-- .. by its name -/
structure Fx (P : Program) (w : World) (K : PySem.W.Frag) (mg : Str → Option Value) (base : Heap) (yes : List Str) (x p : Str) (k : Nat) (m : XFn) : Prop where
  ex : ∃ f fd, mg x = some (.ref f) ∧ PySem.W.keepIn K (.ref f) = true ∧ Binds K fd [p] [] ∧ FnX P w K mg base yes k f fd p m
section
variable {X : Cx} {W : WX} {K : PySem.W.Frag} {α α' α1 α2 : List Addr} {H H' H1 H2 : Hp} {s s' s1 s2 : Sto} {ρ ρ' : En} {σ σ' : L2.St}
end
end PD

/-! Pd28: try with any clauses, named or not, and an else: the rule at the heap, and over data. -/
namespace PD
open PySem L2
abbrev Suite : Type := Addr → Value → Option Addr → TS
inductive Cls_ (X : Cx) : List ExceptHandler → List (Value × Option Nat × Suite) → Prop
  | nil : Cls_ X [] []
  | bare {x : Str} {c : Value} {ts : Suite} {st : Stmt} {su : List Stmt} {p q : Pos} {hs : List ExceptHandler} {l : List (Value × Option Nat × Suite)} (nm : Names X x c)
      (ok : ∀ (a : Addr) (oe : Obj) (cls : Value) (d : Option Addr) (pn : List (Addr × Obj)), Zc cls d oe → (∃ vs, oe.data = .fields vs) → PSs (X.suite a ((a, oe) :: pn)) (st :: su) (ts a cls d)) (r : Cls_ X hs l) :
      Cls_ X (.ExceptHandler (some (.Name x p)) none (st :: su) q :: hs) ((c, none, ts) :: l)
  | named {x n : Str} {i : Nat} {c : Value} {ts : Suite} {st : Stmt} {su : List Stmt} {p q : Pos} {hs : List ExceptHandler} {l : List (Value × Option Nat × Suite)} (nm : Names X x c) (hi : X.N[i]? = some n) (hln : X.env.kindOf n = some .local)
      (ok : ∀ (a : Addr) (oe : Obj) (cls : Value) (d : Option Addr) (pn : List (Addr × Obj)), Zc cls d oe → (∃ vs, oe.data = .fields vs) → PSs (X.suite a ((a, oe) :: pn)) (st :: su) (ts a cls d)) (r : Cls_ X hs l) :
      Cls_ X (.ExceptHandler (some (.Name x p)) (some n) (st :: su) q :: hs) ((c, some i, ts) :: l)
section
variable {X : Cx} {body orelse : List Stmt} {h₀ : ExceptHandler} {hds : List ExceptHandler} {l : List (Value × Option Nat × Suite)} {pos : Pos} {tb : WX → TS} {u : TS} {Wout : WX}
end
end PD

/-! Pd29: try over data. -/
namespace PD
open PySem L2
/-- a clause: the classes that it takes, those that it lets pass, its name's slot, its suite -/
abbrev Cl : Type := List Str × List Str × Option Nat × XS
inductive JCl (X : Cx) : List ExceptHandler → List Cl → Prop
  | nil : JCl X [] []
  | bare {x : Str} {yes no : List Str} {g : GS} {st : Stmt} {su : List Stmt} {p q : Pos} {hs : List ExceptHandler} {l : List Cl} (hx : X.mg x = some (.ref (He.ga X.K x))) (hy : Xm X.K x yes true) (hn : Xm X.K x no false) (hg : Gl X x) (hdb : (x == ("__debug__" : Str)) = false)
      (ok : ∀ (a : Addr) (oe : Obj) (cls : Value) (d : Option Addr) (pn : List (Addr × Obj)), Zc cls d oe → (∃ vs, oe.data = .fields vs) → JB (X.suite a ((a, oe) :: pn)) wNone (st :: su) g) (r : JCl X hs l) :
      JCl X (.ExceptHandler (some (.Name x p)) none (st :: su) q :: hs) ((yes, no, none, fun _ _ _ => g) :: l)
  | named {x n : Str} {i : Nat} {yes no : List Str} {g : XS} {st : Stmt} {su : List Stmt} {p q : Pos} {hs : List ExceptHandler} {l : List Cl} (hx : X.mg x = some (.ref (He.ga X.K x))) (hy : Xm X.K x yes true) (hn : Xm X.K x no false) (hg : Gl X x) (hdb : (x == ("__debug__" : Str)) = false)
      (hi : X.N[i]? = some n) (hln : X.env.kindOf n = some .local) (ind : ∀ e : Exn, IndS e.fs.isSome i (g e))
      (ok : ∀ (e : Exn) (a : Addr) (oe : Obj) (d : Option Addr) (pn : List (Addr × Obj)), e.cls ∈ yes → Hld (X.suite a ((a, oe) :: pn)) e a oe d → JB (X.suite a ((a, oe) :: pn)) wNone (st :: su) (g e a d)) (r : JCl X hs l) :
      JCl X (.ExceptHandler (some (.Name x p)) (some n) (st :: su) q :: hs) ((yes, no, some i, g) :: l)
section
variable {X : Cx} {W : WX} {K : PySem.W.Frag} {α α' α1 α2 : List Addr} {H H' H1 H2 : Hp} {s s' s1 s2 : Sto} {ρ ρ' : En} {σ σ' : L2.St}
theorem SOk.addxd {dd : Addr} {l : List (Str × D)} {fv : List (Str × V)} (S : SOk K α H s) (h : H dd = some (.xd fv)) (r : RepF K α H l fv) : SOk K (α ++ [dd]) H (s ++ [.xd l]) := by
  have l1 : Le K α H (α ++ [dd]) H := Le.grow dd
  have low : ∀ {i : Nat} {o : O}, (s ++ [O.xd l])[i]? = some o → mutb o = true → i < s.length ∧ s[i]? = some o := fun {i o} e m => by
    rcases Nat.lt_or_ge i s.length with hi | hi
    · rw [List.getElem?_append_left hi] at e
      exact ⟨hi, e⟩
    · rw [List.getElem?_append_right hi] at e
      cases hz : i - s.length with
      | zero =>
        rw [hz] at e
        cases e
        cases m
      | succ k =>
        rw [hz] at e
        cases e
  refine ⟨by rw [List.length_append, List.length_append, S.len]; rfl, fun n o e => ?_, fun m n om on a hmn em en mm mn am an => ?_⟩
  · rcases Nat.lt_or_ge n s.length with hn | hn
    · rw [List.getElem?_append_left hn] at e
      obtain ⟨a, h1, h2⟩ := S.at_ n o e
      exact ⟨a, l1.get h1, h2.mono l1 fun _ z => z⟩
    · rw [List.getElem?_append_right hn] at e
      cases hz : n - s.length with
      | zero =>
        rw [hz] at e
        cases e
        refine ⟨dd, ?_, fv, h, r.mono l1⟩
        rw [List.getElem?_append_right (by rw [S.len]; exact hn), S.len, hz]
        rfl
      | succ k =>
        rw [hz] at e
        cases e
  · obtain ⟨l2, e1⟩ := low em mm
    obtain ⟨l3, e2⟩ := low en mn
    rw [List.getElem?_append_left (by rw [S.len]; exact l2)] at am
    rw [List.getElem?_append_left (by rw [S.len]; exact l3)] at an
    exact S.nd m n om on a hmn e1 e2 mm mn am an
end
end PD

/-! Pd30: the facts of the classes that suites ask for; operators where an exception is handled. -/
namespace PD
open PySem L2
/-- what isinstance(e, C) tells of exceptions of the classes of a list -/
def Xi (K : PySem.W.Frag) (C : Str) (l : List Str) (f : Str → Str → Bool) : Prop := ∀ c ∈ l, ExcC K (He.ga K c) ∧ PySem.W.kitOne K (.ref (He.ga K c)) (.ref (He.ga K C)) = some (f c C)
def Xit (K : PySem.W.Frag) (T : String) (l : List Str) (v : Bool) : Prop := ∀ c ∈ l, ExcC K (He.ga K c) ∧ PySem.W.kitOne K (.ref (He.ga K c)) (.type T) = some v
def Xff (K : PySem.W.Frag) (f : Str) (l : List Str) : Prop := ∀ c ∈ l, XfC K (He.ga K c) ∧ PySem.W.findIn K (.ref (He.ga K c)) f = some none
section
variable {K : PySem.W.Frag} {C c f : Str} {T : String} {l : List Str} {g : Str → Str → Bool} {b : Bool}
theorem Xi.nil : Xi K C [] g := fun c h => (nomatch h)
theorem Xi.cons (h : (EF.exis c).ok K = true) (h2 : (EF.kitC c C b).ok K = true) (e : g c C = b) (r : Xi K C l g) : Xi K C (c :: l) g := fun d hd => by
  rcases List.mem_cons.mp hd with rfl | hd
  · exact ⟨excC_of h, by rw [e]; exact of_decide_eq_true h2⟩
  · exact r d hd
theorem Xit.nil : Xit K T [] b := fun c h => (nomatch h)
theorem Xit.cons (h : (EF.exis c).ok K = true) (h2 : (EF.kitT c T b).ok K = true) (r : Xit K T l b) : Xit K T (c :: l) b := fun d hd => by
  rcases List.mem_cons.mp hd with rfl | hd
  · exact ⟨excC_of h, of_decide_eq_true h2⟩
  · exact r d hd
theorem Xff.nil : Xff K f [] := fun c h => (nomatch h)
theorem Xff.cons (h : (EF.xfd c f).ok K = true) (r : Xff K f l) : Xff K f (c :: l) := fun d hd => by
  rcases List.mem_cons.mp hd with rfl | hd
  · obtain ⟨h1, h2⟩ := Bool.and_eq_true_iff.mp h
    exact ⟨xfB_ok h1, He.eqO_ok h2⟩
  · exact r d hd
end
section
variable {X : Cx} {W : WX} {a b : Expr} {ga gb : GE} {pos : Pos}
end
end PD

/-! Pd31: the least and the greatest key of a dict; the greatest of a list of whole numbers. -/
namespace PD
open PySem L2
section
variable {X : Cx} {W : WX}
end
end PD

/-! Pd32: a class with its own __init__ made: C(a, ..); C(). -/
namespace PD
open PySem L2
/-- a class by its name whose __init__ is the function m -/
structure Ig (P : Program) (w : World) (K : PySem.W.Frag) (mg : Str → Option Value) (base : Heap) (c : Str) (ps : List Str) (k : Nat) (m : Fn) : Prop where
  glo : mg c = some (.ref (He.ga K c))
  ex : ∃ f fd, Mk K (He.ga K c) f ∧ Binds K fd ps [] ∧ FnOk P w K mg base (L2.CX P w) k f fd ps (spG K ps.length m)
  len : ∀ ds s, m ds s ≠ .bad → ds.length = ps.length
section
variable {X : Cx} {W : WX} {e : Expr} {es : List Expr} {gl : GA} {pos p : Pos} {α : List Addr} {H : Hp} {s : Sto}
end
end PD

/-! Pd33: raise C(a, b), C an own class of exceptions whose __init__ calls that of the class above it and sets two fields. -/
namespace PD
open PySem L2
/-- what the written part says of the class c, of the class P above it, of c's fields f, g -/
structure Xo (K : PySem.W.Frag) (c P f g : Str) : Prop where
  o : OexC K (He.ga K c)
  nf : PySem.W.findIn K (.ref (He.ga K c)) f = some none
  ng : PySem.W.findIn K (.ref (He.ga K c)) g = some none
  iC : PySem.W.findIn K (.ref (He.ga K c)) "__init__" = some (some (.ref (He.fAd K (c, some "__init__"))))
  tI : PySem.W.typeIn K (.ref (He.fAd K (c, some "__init__"))) = some (.type "function")
  pG : PySem.W.specialIn K (.ref (He.ga K P)) "__getattribute__" = some (some (.builtin "type.__getattribute__"))
  pT : PySem.W.typeIn K (.ref (He.ga K P)) = some (.type "type")
  pR : PySem.W.readsIn K (He.ga K P) (.type "type") = true
  pV : PySem.W.findCls K (.ref (He.ga K P)) (.type "type") "__init__" = some (.val (.builtin "ValueError.__init__"))
theorem oexB_ok {K : PySem.W.Frag} {C : Addr} (q : oexB K C = true) : ∃ nm q N bs bm sn sub ab col dd k0 k1 k2 k3 k5, K.lookup C = some (excClassObj nm q C N bs bm true sn sub ab col dd k0 k1 k2 k3 k5 "ValueError.__new__") ∧ PySem.HandSPX.refsVE bm = true := by
  unfold oexB at q
  split at q
  · rename_i dd cd sl ho
    split at q
    · rename_i C' bm k0 k1 k2 k3 n k5 hm hs
      simp only [Bool.and_eq_true, beq_iff_eq, Bool.not_eq_true'] at q
      obtain ⟨rfl, rfl, hdel, hhd, ht⟩ := q
      obtain ⟨nm, bs, mro, ns, qn, hd, sn, sub, ab, col, del⟩ := cd
      dsimp only at hm hdel hhd
      subst hm hdel hhd
      have hsl : sl = #[k0, k1, k2, k3, some (.builtin "ValueError.__new__"), k5] := by
        obtain ⟨l⟩ := sl
        simp only at hs
        rw [hs]
      subst hsl
      exact ⟨nm, qn, ns, bs, bm, sn, sub, ab, col, dd, k0, k1, k2, k3, k5, ho, ht⟩
    · cases q
  · cases q
theorem veInit_ok {x : Option PySem.W.CFound} (h : veInit x = true) : x = some (.val (.builtin "ValueError.__init__")) := by
  unfold veInit at h
  split at h
  · rw [beq_iff_eq.mp h]
  · cases h
theorem oex_ok {K : PySem.W.Frag} {c P f g : Str} (h : (EF.oex c P f g).ok K = true) : Xo K c P f g := by
  unfold EF.ok at h
  simp only [Bool.and_eq_true, decide_eq_true_eq] at h
  obtain ⟨h1, h2, h3, h4, h5, h6, h7, h8, h9, h10, h11, h12, h13⟩ := h
  exact ⟨⟨oexB_ok h1, He.eqO_ok h2, h3, h4, h5⟩, He.eqO_ok h6, He.eqO_ok h7, He.eqO_ok h8, h9, He.eqO_ok h10, h11, h12, veInit_ok h13⟩
/-- what __init__ does -/
def spU (C : Addr) (f g : Str) : Sp := fun vs H Q _ => ∃ (a : Addr) (x y : V), vs = [.ref a, x, y] ∧ H a = some (exo a C none) ∧ ∀ dx, H dx = none → dx ≠ a →
  Q .non (upd (upd (upd H dx (exd dx [(f, x)])) a (exo a C (some dx))) dx (exd dx [(g, y), (f, x)]))
section
variable {X : Cx} {P : Str} {e : Expr} {es : List Expr} {ta : TA} {p1 p2 pos : Pos}
/-- P.__init__(self, ..) -/
theorem pe_pinit {pl : Sem Bool} (hg : Gl X P) (hm : X.mg P = some (.ref (He.ga X.K P))) (pG : PySem.W.specialIn X.K (.ref (He.ga X.K P)) "__getattribute__" = some (some (.builtin "type.__getattribute__"))) (pT : PySem.W.typeIn X.K (.ref (He.ga X.K P)) = some (.type "type"))
    (pR : PySem.W.readsIn X.K (He.ga X.K P) (.type "type") = true) (pV : PySem.W.findCls X.K (.ref (He.ga X.K P)) (.type "type") "__init__" = some (.val (.builtin "ValueError.__init__"))) (ha : PA X (e :: es) ta)
    (hdb : (P == ("__debug__" : Str)) = false)
    (hc : eval (.Call (.Attribute (.Name P p1) "__init__" p2) (e :: es) [] pos) X.env = (do
      let ov ← eval (.Name P p1) X.env
      standAt p2.atName
      let (f, first) ← holding [ov] (getMethod ov "__init__" pl)
      callWith pos f first (backTo pos (starEach (e :: es) X.env)) (backToKw pos (keywordEach [] X.env))))
    (he : starEach (e :: es) X.env = (false, eval e X.env) :: starEach es X.env) (hpl : (backTo pos (starEach es X.env)).any (·.1) = false) :
    PE X (.Call (.Attribute (.Name P p1) "__init__" p2) (e :: es) [] pos) (tVeI X.K ta) := by
  refine ⟨fun pins s σ H Q I h => ?_⟩
  refine PySem.W.methodCall_KW (ld_glob I hg hm ?_ hdb) hc
  obtain ⟨m, fr⟩ := I.fr
  refine PySem.W.method_of_cls fr I.ok.mod.kin pG (PySem.W.cls_val fr I.ok.mod.kin pT pR pV (by decide +kernel) ?_)
  show wpAny _ _ (callWith pos (Value.builtin "ValueError.__init__") [] (backTo pos (starEach (e :: es) X.env)) []) _ _ _
  refine PyProof.Rows.callWith_method1 (thn (ha.run pos pins _ σ H _ (I.tok _) h) fun us s1 ⟨vs, H1, I1, r1, a, C, ws, ev, hl, T, ea, q⟩ => ?_) he hpl
  subst ev
  cases r1 with
  | @cons _ u0 _ ur ra rw' =>
    obtain rfl : u0 = Value.ref a := ra
    have hlen : ur.length ≤ sizeLine := by
      rw [← Paired.length rw', sizeLine_eq]
      omega
    exact oinit_ok T I1 ea hlen fun s' J => ⟨.non, H1, J, rfl, q⟩
end
section
variable {P : Program} {w : World} {K : PySem.W.Frag} {mg : Str → Option Value} {base : Heap}
/-- the class by its name; what its __init__ does -/
structure Og (P : Program) (w : World) (K : PySem.W.Frag) (mg : Str → Option Value) (base : Heap) (c f g : Str) : Prop where
  glo : mg c = some (.ref (He.ga K c))
  o : OexC K (He.ga K c)
  iC : PySem.W.findIn K (.ref (He.ga K c)) "__init__" = some (some (.ref (He.fAd K (c, some "__init__"))))
  tI : PySem.W.typeIn K (.ref (He.fAd K (c, some "__init__"))) = some (.type "function")
  ex : ∃ fd ps, Binds K fd ps [] ∧ FnOk P w K mg base (L2.CX P w) 1 (He.fAd K (c, some "__init__")) fd ps (spU (He.ga K c) f g)
/-- the def __init__ of this program's Undone -/
theorem fn_undone {x qual : Str} {params : Arguments} {scope : Scope} {fd : FuncData} {m : Str} {j : Nat} {q1 q2 q3 q4 q5 q6 a1 a2 a3 a4 b1 b2 b3 b4 : Pos} {c : Str}
    (F : FunD K x qual params [.Expr (.Call (.Attribute (.Name "PastError" q1) "__init__" q2) [.Name "self" q3, .Constant (.str m) j q4] [] q5) q6, .Assign [.Attribute (.Name "self" a1) "at" a2] (.Name "at" a3) a4, .Assign [.Attribute (.Name "self" b1) "deed" b2] (.Name "deed" b3) b4] scope [] [] (He.fAd K (c, some "__init__")) fd)
    (S : FnScope ["self", "at", "deed"] ["self", "at", "deed"] scope) (hP : mg "PastError" = some (.ref (He.ga K "PastError"))) (T : Xo K c "PastError" "at" "deed") (hgl : ∀ f cdv A outer s H E, Gl (cxOf (L2.CX P w) P w K mg base ["self", "at", "deed"] qual scope f cdv A outer s H E) "PastError")
    (hcl : ∀ f cdv A outer s H E, ∃ pl, MCall (cxOf (L2.CX P w) P w K mg base ["self", "at", "deed"] qual scope f cdv A outer s H E) (.Name "PastError" q1) "__init__" [.Name "self" q3, .Constant (.str m) j q4] q2 q5 pl) :
    FnOk P w K mg base (L2.CX P w) 1 (He.fAd K (c, some "__init__")) fd ["self", "at", "deed"] (spU (He.ga K c) "at" "deed") := by
  refine F.ok (k := 0) S (fun vs H Q E h => ?_) (fun cdv A outer s H vs Q E hr h => ?_)
  · obtain ⟨a, x, y, rfl, _⟩ := h
    rfl
  · obtain ⟨a, x, y, rfl, h1, h2⟩ := h
    have v0 : Vis scope ("self" : Str) := (S.par _ (List.mem_cons_self ..)).imp id .inl
    have v1 : Vis scope ("at" : Str) := (S.par _ (List.mem_cons_of_mem _ (List.mem_cons_self ..))).imp id .inl
    have v2 : Vis scope ("deed" : Str) := (S.par _ (List.mem_cons_of_mem _ (List.mem_cons_of_mem _ (List.mem_cons_self ..)))).imp id .inl
    obtain ⟨pl, hpl⟩ := hcl (He.fAd K (c, some "__init__")) cdv A outer s H E
    refine ⟨_, pss_cons (ps_expr (pe_pinit (pl := pl) (hgl _ cdv A outer s H E) hP T.pG T.pT T.pR T.pV (pa_cons (pe_var (i := 0) rfl v0) (pa_cons pe_str pa_nil (by rfl)) (by rfl)) (by decide) hpl (by rfl) (by rfl)) (by rfl)) (pss_cons (ps_ost (pe_var (i := 0) rfl v0) (pe_var (i := 1) rfl v1) (by rfl)) (pss_one (ps_ost (pe_var (i := 0) rfl v0) (pe_var (i := 2) rfl v2) (by rfl)))), ?_⟩
    refine ⟨.ref a, rfl, a, He.ga K c, [.str m], rfl, (show (1 : Nat) ≤ 1000 by decide), T.o, h1, x, rfl, .ref a, rfl, a, He.ga K c, rfl, T.o, T.nf, .inl ⟨h1, fun dx n1 n2 => ?_⟩⟩
    refine ⟨y, rfl, .ref a, rfl, a, He.ga K c, rfl, T.o, T.ng, .inr ⟨dx, [(("at" : Str), x)], upd_same, by rw [upd_ne n2, upd_same], (show (1 : Nat) ≤ 900 by decide), ?_⟩⟩
    exact h2 dx n1 n2
theorem og_undone {x qual : Str} {params : Arguments} {scope : Scope} {fd : FuncData} {m : Str} {j : Nat} {q1 q2 q3 q4 q5 q6 a1 a2 a3 a4 b1 b2 b3 b4 : Pos} {c : Str} (hm : mg c = some (.ref (He.ga K c))) (hP : mg "PastError" = some (.ref (He.ga K "PastError"))) (T : Xo K c "PastError" "at" "deed")
    (S : FnScope ["self", "at", "deed"] ["self", "at", "deed"] scope)
    (F : FunD K x qual params [.Expr (.Call (.Attribute (.Name "PastError" q1) "__init__" q2) [.Name "self" q3, .Constant (.str m) j q4] [] q5) q6, .Assign [.Attribute (.Name "self" a1) "at" a2] (.Name "at" a3) a4, .Assign [.Attribute (.Name "self" b1) "deed" b2] (.Name "deed" b3) b4] scope [] [] (He.fAd K (c, some "__init__")) fd)
    (hb : Binds K fd ["self", "at", "deed"] []) (hgl : ∀ f cdv A outer s H E, Gl (cxOf (L2.CX P w) P w K mg base ["self", "at", "deed"] qual scope f cdv A outer s H E) "PastError")
    (hcl : ∀ f cdv A outer s H E, ∃ pl, MCall (cxOf (L2.CX P w) P w K mg base ["self", "at", "deed"] qual scope f cdv A outer s H E) (.Name "PastError" q1) "__init__" [.Name "self" q3, .Constant (.str m) j q4] q2 q5 pl) : Og P w K mg base c "at" "deed" :=
  ⟨hm, T.o, T.iC, T.tI, fd, _, hb, fn_undone F S hP T hgl hcl⟩
end
def raisO (c f g : Str) (ρ : En) (l : List D) (s1 : Sto) : RS := match l with
  | [x, y] => .err ⟨c, some [(g, y), (f, x)]⟩ ρ s1
  | _ => .bad
def gRaiseO (c f g : Str) (gl : GA) : GS := fun ρ s => (gl ρ s).st ρ (raisO c f g ρ)
section
variable {X : Cx} {W : WX} {e : Expr} {es : List Expr} {gl : GA} {p pos pos2 : Pos}
theorem js_raiseO {c f g : Str} (F : Og X.prog X.w X.K X.mg X.base c f g) (hr : Room 2 X.A) (tk : Takes X W) (hc : X.calm = true) (ha : JA X W (e :: es) gl) (hg : Gl X c := by rfl)
    (hdb : (c == ("__debug__" : Str)) = false := by decide) (he : starEach (e :: es) X.env = (false, eval e X.env) :: starEach es X.env := by rfl) (hpl : (backTo pos (starEach es X.env)).any (·.1) = false := by rfl) :
    JS X W (.Raise (some (.Call (.Name c p) (e :: es) [] pos)) none pos2) (gRaiseO c f g gl) := by
  obtain ⟨fd, ps, h3, h4⟩ := F.ex
  obtain ⟨t, p1, q1⟩ := ha
  refine ⟨_, ps_raise hc tk (pmk_oex F.o F.iC F.tI h4 hr h3 .nil (passes_call tk fun c d σ H h => h.elim) hg F.glo p1 hdb he hpl), fun ρ s σ α H D E S h => ?_⟩
  unfold gRaiseO at h
  cases z : gl ρ s with
  | bad => rw [z] at h; exact h.elim
  | err ee s1 =>
    rw [z] at h
    exact q1 ρ s σ α H _ E S (by
      rw [z]
      exact fun c dd α' H' l S' R => h c dd σ α' H' l S' (E.mono l) R)
  | ok l s1 =>
    rw [z] at h
    have h0 : SPost X.K W α H (raisO c f g ρ l s1) D := h
    clear h
    refine q1 ρ s σ α H _ E S (by
      rw [z]
      clear z
      intro vs α1 H1 l1 S1 R1
      match l, h0, R1 with
      | [x, y], h0, R1 =>
        obtain ⟨v1, r1, rfl, R2, v2, r2, rfl, R3, rfl⟩ := R1
        refine ⟨(show (2 : Nat) ≤ 1000 by decide), fun a ha => ⟨a, v1, v2, rfl, upd_same, fun dx hdx hne => ⟨rfl, dx, _, ?_, upd_same, ?_, ?_⟩⟩⟩
        · rw [upd_ne (Ne.symm hne), upd_same]
        · rw [upd_ne hne] at hdx
          exact hdx
        · rw [upd_ne hne] at hdx
          have eH : upd (del (upd (upd (upd (upd H1 a (exo a (He.ga X.K c) none)) dx (exd dx [(f, v1)])) a (exo a (He.ga X.K c) (some dx))) dx (exd dx [(g, v2), (f, v1)])) a) dx (.xd [(g, v2), (f, v1)]) = upd H1 dx (.xd [(g, v2), (f, v1)]) := by
            funext b
            by_cases hb : b = dx
            · subst hb
              rw [upd_same, upd_same]
            · rw [upd_ne hb, upd_ne hb]
              by_cases hba : b = a
              · subst hba
                rw [del_same, ha]
              · rw [del_ne hba, upd_ne hb, upd_ne hba, upd_ne hb, upd_ne hba]
          rw [eH]
          have l2 : Le X.K α1 H1 α1 (upd H1 dx (.xd [(g, v2), (f, v1)])) := Le.new hdx
          exact h0 _ _ σ α1 _ (l1.trans l2) (S1.new hdx) (E.mono (l1.trans l2)) ⟨rfl, [(g, v2), (f, v1)], upd_same, rfl, ⟨v2, [v1], rfl, R3.mono l2, v1, [], rfl, R2.mono l2, rfl⟩⟩)
end
end PD

/-! Pd34: two dicts compared by ==. -/
namespace PD
open PySem L2
/-- the things of the one dict met in the other -/
inductive HitV (K : PySem.W.Frag) (H : Hp) (kb : List (Key × V)) : List (Key × V) → Bool → Prop
  | nil : HitV K H kb [] true
  | miss {k : Key} {v : V} {r : List (Key × V)} : valV kb k = none → HitV K H kb ((k, v) :: r) false
  | hit {k : Key} {v y : V} {r : List (Key × V)} {p q : PyData} {b : Bool} : valV kb k = some y → Dp K H v p → Dp K H y q → SeqAt.shaped p = true → SeqAt.shaped q = true → HitV K H kb r b → HitV K H kb ((k, v) :: r) (PyData.eqv p q && b)
section
variable {X : Cx} {pins : List (Addr × Obj)} {σ : L2.St} {H : Hp} {s : Shared}
end
section
variable {X : Cx} {α : List Addr} {H : Hp} {s : Sto}
end
end PD

/-! Pd35: methods whose last parameter has a default (None): o.m(e, ..) with it left out, or told by its name. -/
namespace PD
open PySem L2
section
variable {K : PySem.W.Frag} {x qual : Str} {params : Arguments} {body : List Stmt} {scope : Scope} {f : Addr} {fd : FuncData} {ps : List Str}
end
/-- a method with its default -/
structure MgD (P : Program) (w : World) (K : PySem.W.Frag) (mg : Str → Option Value) (base : Heap) (c m : Str) (ps : List Str) (k : Nat) (nm : Str) (fn : Fn) : Prop where
  cls : Cls K (He.ga K c)
  ex : ∃ f fd ds, Meth K (He.ga K c) m f ∧ Vals [V.non] ds ∧ Binds K fd ps ds ∧ KBn K fd ps (ps.length - 1) [nm] (fun us ws => us ++ ws) (fun vs zs => vs ++ zs) ∧ FnOk P w K mg base (L2.CX P w) k f fd ps (spG K ps.length fn)
  len : ∀ ds s, fn ds s ≠ .bad → ds.length = ps.length
section
variable {X : Cx} {W : WX} {K : PySem.W.Frag} {α : List Addr} {H : Hp} {s : Sto} {ρ : En} {σ : L2.St}
variable {e o v : Expr} {es : List Expr} {go gv : GE} {gl gl' : GA} {pos apos kp : Pos}
end
end PD

/-! Pd36: a method's last argument told by its name; isinstance of an own class. -/
namespace PD
open PySem L2
section
variable {X : Cx} {W : WX} {K : PySem.W.Frag} {α : List Addr} {H : Hp} {s : Sto} {ρ : En} {σ : L2.St}
variable {e o v : Expr} {es : List Expr} {go gv : GE} {gl gl' : GA} {pos apos : Pos}
end
/-! isinstance of an instance of an own class, by an own class -/
/-- what the head tells of the classes of a list against the class C; other classes: none -/
def Iw (K : PySem.W.Frag) (C : Str) (l : List Str) (f : Str → Bool) : Prop := ∀ c ∈ l, Cls K (He.ga K c) ∧ PySem.W.findIn K (.ref (He.ga K c)) "__class__" = some (some (.builtin "object.__class__")) ∧ PySem.W.specialIn K (.builtin "object.__class__") "__get__" = some (some (.builtin "getset_descriptor.__get__")) ∧ PySem.W.takesIn K (.builtin "object.__class__") = some true ∧ PySem.W.mroIn K (He.ga K c) (.type "object") = some true ∧ PySem.W.kitOne K (.ref (He.ga K c)) (.ref (He.ga K C)) = some (f c)
theorem Iw.nil {K : PySem.W.Frag} {C : Str} {f : Str → Bool} : Iw K C [] f := fun c h => (nomatch h)
theorem Iw.cons {K : PySem.W.Frag} {C c : Str} {l : List Str} {f : Str → Bool} {b : Bool} (h0 : Cls K (He.ga K c)) (h : (EF.iso c).ok K = true) (h2 : (EF.kitC c C b).ok K = true) (e : f c = b) (r : Iw K C l f) : Iw K C (c :: l) f := fun d hd => by
  rcases List.mem_cons.mp hd with rfl | hd
  · unfold EF.ok at h
    obtain ⟨h1, h⟩ := Bool.and_eq_true_iff.mp h
    obtain ⟨h3, h⟩ := Bool.and_eq_true_iff.mp h
    obtain ⟨h4, h5⟩ := Bool.and_eq_true_iff.mp h
    exact ⟨h0, He.eqO_ok h1, He.eqO_ok h3, of_decide_eq_true h4, of_decide_eq_true h5, e ▸ of_decide_eq_true h2⟩
  · exact r d hd
section
variable {X : Cx} {W : WX} {a : Expr} {ga : GE} {pos p p2 : Pos}
end
section
variable {X : Cx} {s : Sto} {n : Nat} {l : List D} {d : D} {Q : D → Sto → Prop}
/-! xs.insert(i, d) -/
end
end PD

/-! Pd37: a module's tuple of texts; all(..) of truths; int of a truth. -/
namespace PD
open PySem L2
section
variable {X : Cx} {W : WX} {pos : Pos}
end
end PD

/-! Pd38: a list comprehension (one clause, no test, nothing captured) whose item raises. -/
namespace PD
open PySem L2 PySem.Spec PyProof.Rows

/-! ### the frame that a comprehension's block shares with its def -/
section
variable {M : Model} {A : Around} {E : Value → Shared → Prop} {s : Shared} {Z : Obj → Prop} {G : Heap} {v : Env} {vs : List Env} {L e : Addr}
open PySem.HandSPX
end
section
variable {X : Cx} {W : WX} {pins : List (Addr × Obj)} {σ : L2.St} {H : Hp} {s : Shared}
open PySem.HandSPX
end
/-! ### over data -/
/-- the reading of an expression, by what it computes -/
def canonE (K : PySem.W.Frag) (W : WX) (g : GE) : TE := fun σ H Q => ∃ ρ s α, ERel K α H ρ σ ∧ SOk K α H s ∧ Post K (Rep K) W α H σ (g ρ s) Q
theorem JE.canon {X : Cx} {W : WX} {e : Expr} {g : GE} (h : JE X W e g) : PE X e (canonE X.K W g) := by
  obtain ⟨t, p, q⟩ := h
  exact ⟨fun pins s σ H Q I z => by
    obtain ⟨ρ, s0, α, E, S, hp⟩ := z
    exact p.run pins s σ H Q I (q ρ s0 σ α H Q E S hp)⟩
section
variable {X : Cx} {W : WX} {K : PySem.W.Frag} {α α' α1 α2 : List Addr} {H H' H1 H2 : Hp} {s s' s1 s2 : Sto} {ρ ρ' : En} {σ σ' : L2.St} {ga : GE} {pos : Pos}
end
end PD

/-! Pd39: sorted, of triples of a text and two whole numbers. -/
namespace PD
open PySem L2 PySem.Spec PyProof.Rows
abbrev Tp := Str × Int × Int
def IsTrip (h : Heap) (v : Value) (p : Tp) : Prop := ∃ a o t u w n, v = .ref a ∧ h.get? a = some o ∧ o.cls = .type "tuple" ∧ o.data = .seq #[.str p.1 t, .int p.2.1 u, .int p.2.2 w] n
theorem IsTrip.keeps {h h' : Heap} {v : Value} {p : Tp} (q : IsTrip h v p) (k : ∀ b o, h.get? b = some o → o.cls = .type "tuple" → h'.get? b = some o) : IsTrip h' v p := by
  obtain ⟨a, o, t, u, w, n, rfl, ho, hc, hd⟩ := q
  exact ⟨a, o, t, u, w, n, rfl, k a o ho hc, hc, hd⟩
section
variable {prog : Program} {w : World} {A : Around} {E : Value → Shared → Prop} {s : Shared}
end
section
variable {X : Cx} {W : WX} {K : PySem.W.Frag} {α α' α1 α2 : List Addr} {H H' H1 H2 : Hp} {s s' s1 s2 : Sto} {σ σ' : L2.St}
end
end PD

/-! Pd40: sets of texts: made of a list, sorted (twins of HandS.Set's rules for whole numbers). -/
namespace PD
open PySem PySem.Spec PyProof.Rows L2
def keyS (e : Int × Value) : Str := match e.2 with | .str k _ => k | _ => Str.empty
def GoodS (P : Program) (w : World) (e : Int × Value) : Prop := ∃ k tk, e.2 = Value.str k tk ∧ e.1 = (PySem.strKind P w).hash k
/-- the set of texts at a -/
def SetS (P : Program) (w : World) (h : Heap) (a : Addr) (S : Str → Bool) (n : Nat) : Prop :=
  ∃ o es ep t, h.get? a = some o ∧ o.ExactSet ∧ o.data = .set es ep t ∧ (∀ e ∈ es.toList, GoodS P w e) ∧ (es.toList.map keyS).Nodup ∧ (∀ k, S k = true ↔ k ∈ es.toList.map keyS) ∧
    es.size < scanBound ∧ t.fits es.size = true ∧ es.size = n ∧ Ris t.place.toList ∧ (w.params.followText "set-order" = true ∨ t.led = true)
section
variable {P : Program} {w : World} {h h' : Heap} {a : Addr} {S : Str → Bool} {n : Nat}
theorem SetS.at (R : SetS P w h a S n) (k : ∀ o, h.get? a = some o → h'.get? a = some o) : SetS P w h' a S n := by
  obtain ⟨o, es, ep, t, ho, r⟩ := R
  exact ⟨o, es, ep, t, k o ho, r⟩
end
section
variable {P : Program} {w : World} {A : Around} {E : Value → Shared → Prop} {s : Shared} {a : Addr} {S : Str → Bool} {n : Nat}
end
end PD

/-! Pd41: sorted(set(list of texts)). -/
namespace PD
open PySem PySem.Spec PyProof.Rows L2
section
variable {P : Program} {w : World} {A : Around} {E : Value → Shared → Prop} {s : Shared}
theorem SetS.congr {h : Heap} {a : Addr} {S S' : Str → Bool} {n : Nat} (R : SetS P w h a S n) (e : ∀ k, S' k = S k) : SetS P w h a S' n := (funext e : S' = S) ▸ R
end
/-! the texts of a list, each once, sorted -/
section
variable {X : Cx} {W : WX}
end
end PD

/-! Pd42: sorted(xs, key=lambda y: ..), items of any kind, keys whole numbers (twins of Pd17, Pd19). -/
namespace PD
open PySem PySem.W PySem.Calls PyProof.Rows L2
section
variable {prog : Program} {w : World} {A : Around} {E : Value → Shared → Prop} {s : Shared} {a kS : Addr} {vs : List Value} {e1 : Nat} {P : PySem.Fin → Shared → Prop} {bs : List (V × Int)}
end
section
variable {X : Cx} {pins : List (Addr × Obj)} {σ : L2.St} {H : Hp} {s : Shared} {Q : VK} {l f : Addr} {bs : List (V × Int)}
end
end PD

/-! Pd43: sorted(xs, key=lambda y: ..), items of any kind: the rule. -/
namespace PD
open PySem L2 LamX NdefX PyProof.Rows
section
variable {K : PySem.W.Frag} {α : List Addr} {H : Hp}
end
section
variable {X : Cx} {W : WX} {e : Expr} {ga gb : GE} {x y : Str} {N fr : List Str} {js : List Nat} {k : Nat} {params : Arguments} {body : Expr} {scope : Scope} {p lpos kpos pos : Pos} {c : Addr}
end
end PD

/-! Pd44: all(list of truths); a field of an exception in a def that is handed it. -/
namespace PD
open PySem L2
section
variable {X : Cx} {W : WX} {K : PySem.W.Frag} {α : List Addr} {H : Hp}
end
end PD

/-! Pd45: a comprehension in a def that is handed an exception. -/
namespace PD
open PySem L2
section
variable {b : Bool} {i : Nat}
end
end PD

/-! Pdo: an own exception, made by its own __init__ or caught, kept as a value: its fields, isinstance of it. -/
namespace PD
open PySem L2 PySem.Spec PyProof.Rows
section
variable {P : Program} {w : World} {H : Hp} {h : Heap} {a C d : Addr}
theorem exk_ok {oe : Obj} {vs : Array Value} (e : h.get? a = some oe) (z : Zc (.ref C) (some d) oe) (hd : oe.data = .fields vs) : ObjOk P w H h a (exk a C d) :=
  ⟨⟨oe, vs, e, z, hd⟩, ⟨oe, e⟩, fun _ _ ⟨o, v, q, r⟩ k => ⟨o, v, k o q, r⟩⟩
theorem exk_at (hok : HOk P w H h) (e : H a = some (exk a C d)) : ∃ (oe : Obj) (vs : Array Value), h.get? a = some oe ∧ Zc (.ref C) (some d) oe ∧ oe.data = .fields vs := by
  have x : ObjOk P w H h a (.ext fun h => ∃ (oe : Obj) (vs : Array Value), h.get? a = some oe ∧ Zc (.ref C) (some d) oe ∧ oe.data = .fields vs) := hok a _ e
  exact x.1
end
section
variable {X : Cx} {pins : List (Addr × Obj)} {σ : L2.St} {H : Hp} {s : Shared} {a C d : Addr} {o : HO}
/-- an object that stood nowhere at the entry is tracked from now on -/
theorem inv_track (I : Inv X pins σ H s) (n0 : X.s_0.heap.get? a = none) (na : H a = none) (nL : a ≠ X.env.locals) (nC : ∀ x c, X.env.cells.lookup x = some c → c ≠ a) (nP : ∀ p ∈ X.pn ++ pins, p.1 ≠ a)
    (ok : ObjOk X.prog X.w (upd H a o) s.heap a o) : Inv X pins σ (upd H a o) s := by
  refine ⟨I.ok, I.os, I.bare, ⟨fun b o e n hb hq => I.base.keep b o e n hb hq, fun b o e n hb hq => I.base.slot b o e n hb hq, fun b o e n hq => ?_, fun b o e hq => I.base.there b o e hq, fun b xs e => ?_, fun b o u e => ?_, fun b ps e => ?_⟩, I.loc, I.cell, ?_, fun x c e => ?_, fun p hp => ?_, fun b u e => ?_, I.len⟩
  · rw [upd_ne (fun z => by rw [z, n0] at e; cases e)]
    exact I.base.free b o e n hq
  · rw [upd_ne (ne_of_none (I.base.tups b xs e) na)]
    exact I.base.tups b xs e
  · rw [upd_ne (ne_of_none (I.base.frzs b o u e) na)]
    exact I.base.frzs b o u e
  · obtain ⟨m, q⟩ := I.base.tbls b ps e
    exact ⟨m, by rw [upd_ne (ne_of_none q na)]; exact q⟩
  · rw [upd_ne (Ne.symm nL)]
    exact I.free
  · rw [upd_ne (nC x c e)]
    exact I.freeC x c e
  · obtain ⟨e, n, ne, nf, dd⟩ := I.pin p hp
    exact ⟨e, by rw [upd_ne (nP p hp)]; exact n, ne, nf, dd⟩
  · by_cases hb : b = a
    · subst hb
      rw [upd_same] at e
      cases e
      exact ok
    · rw [upd_ne hb] at e
      exact (I.hok b u e).stay (fun c v _ q => q) (fun c q => by rw [upd_ne (ne_of_none q na)]; exact q) fun c xs q => by rw [upd_ne (ne_of_none q na)]; exact q
/-- what is made is an exception that is kept, its dict the fields of one -/
theorem inv_kept2 {fs : List (Str × V)} (I : Inv X pins σ H s) (ea : H a = some (exo a C (some d))) (ed : H d = some (exd d fs)) : Inv X pins σ (upd (upd H a (exk a C d)) d (.xd fs)) s := by
  obtain ⟨t1, ho⟩ := exo_at I.hok ea
  obtain ⟨hp, g, dr, t, os⟩ := s
  have J : Inv X pins σ (upd H a (exk a C d)) ⟨hp, g, dr, t, os⟩ := I.write (t' := t) (x := a) (e := a) (o := exk a C d) (h' := hp) (by rw [ea]; exact True.intro) (.inl rfl) (fun b u _ q => q) ⟨_, ho⟩ (exk_ok ho ⟨rfl, rfl⟩ rfl)
  have hda : d ≠ a := fun z => by
    subst z
    rw [ea] at ed
    obtain ⟨mA, hns, _⟩ := exd_at (dx := d) (fs := fs) I.hok (by rw [ea]; exact ed)
    obtain ⟨o2, es, ep, e1, e2, _⟩ := hns
    have e3 : hp.get? d = _ := ho
    rw [e3] at e1
    have z2 := Option.some.inj e1
    subst z2
    cases e2
  have ed2 : upd H a (exk a C d) d = some (exd d fs) := by rw [upd_ne hda]; exact ed
  obtain ⟨mA, hns, rel⟩ := exd_at J.hok ed2
  obtain ⟨o2, es, ep, e1, e2⟩ := id hns
  exact J.write (t' := t) (x := d) (e := d) (o := .xd fs) (h' := hp) (by rw [ed2]; exact True.intro) (.inl rfl) (fun b u _ q => q) ⟨_, e1⟩ ⟨mA, hns, rel⟩
end
section
variable {X : Cx} {e : Expr} {es : List Expr} {ta : TA} {p pos : Pos}
/-- C(e, ..) as a value -/
def tVkO (C : Addr) (sp : Sp) (dvs : List V) (ta : TA) : TE := fun σ H Q => ta σ H fun vs H1 => vs.length ≤ 1000 ∧ ∀ a, H1 a = none → sp (.ref a :: (vs ++ dvs)) (upd H1 a (exo a C none))
  (fun v H2 => v = .non ∧ ∃ (d : Addr) (fs : List (Str × V)), H2 a = some (exo a C (some d)) ∧ H2 d = some (exd d fs) ∧ Q (.ref a) (upd (upd H2 a (exk a C d)) d (.xd fs))) (fun _ _ _ => False)
theorem pe_oexV {CX : CXT} {x : Str} {C fI : Addr} {k : Nat} {fd : FuncData} {ps : List Str} {sp : Sp} {ds : List Value} {dvs : List V} (T : OexC X.K C) (iC : PySem.W.findIn X.K (.ref C) "__init__" = some (some (.ref fI))) (tI : PySem.W.typeIn X.K (.ref fI) = some (.type "function"))
    (F1 : FnOk X.prog X.w X.K X.mg X.base CX k fI fd ps sp) (hr : Room (k + 1) X.A) (hb : Binds X.K fd ps ds) (hd : Vals dvs ds) (hx : Passes CX X (fun _ _ _ => False)) (hg : Gl X x) (hm : X.mg x = some (.ref C)) (ha : PA X (e :: es) ta)
    (hdb : (x == ("__debug__" : Str)) = false := by decide) (he : starEach (e :: es) X.env = (false, eval e X.env) :: starEach es X.env := by rfl) (hpl : (backTo pos (starEach es X.env)).any (·.1) = false := by rfl)
    (hce : CX X.stack = CX X.stack := by rfl) :
    PE X (.Call (.Name x p) (e :: es) [] pos) (tVkO C sp dvs ta) := by
  refine ⟨fun pins s σ H Q I h => ?_⟩
  obtain ⟨nm, q, N, bs, bm, sn, sub, ab, col, dd, k0, k1, k2, k3, k5, hC, hbm⟩ := T.cls
  refine wpAny_Call_Name_kw (ld_glob I hg hm ?_ hdb)
  refine PySem.W.callWith_K (h₀ := X.base) I.ok.mod.kin T.kC (thn (ha.run pos pins s σ H _ I h) fun us s1 ⟨vs, H1, I1, r1, hz, q1⟩ => ⟨I1.kIn, ?_⟩) he hpl
  show wpAny _ _ (call (.ref C) us) _ _ _
  obtain ⟨hp, g, dr, tk, os⟩ := s1
  have hsz : hp.objs.size ≤ hp.objs.size + 1 := Nat.le_succ _
  have hq := q1 (hp.objs.size + 1) (I1.hok.fresh hsz)
  have kk : ∀ b o, hp.get? b = some o → ((hp.push (PySem.W.kdv_tup us)).push (PySem.HandSPX.excO C hp.objs.size)).get? b = some o := fun b o e => Heap.get?_push_of_some _ (Heap.get?_push_of_some _ e)
  have hget : ((hp.push (PySem.W.kdv_tup us)).push (PySem.HandSPX.excO C hp.objs.size)).get? (hp.objs.size + 1) = some (PySem.HandSPX.excO C hp.objs.size) := by heap_get
  have I2 : Inv X pins σ (upd H1 (hp.objs.size + 1) (exo (hp.objs.size + 1) C none)) ⟨(hp.push (PySem.W.kdv_tup us)).push (PySem.HandSPX.excO C hp.objs.size), g, dr, tk, os⟩ :=
    I1.laid (t' := tk) (a := hp.objs.size + 1) (o := exo (hp.objs.size + 1) C none) (h' := (hp.push (PySem.W.kdv_tup us)).push (PySem.HandSPX.excO C hp.objs.size)) kk hsz (exo_ok hget)
  have r2 : Vals (V.ref (hp.objs.size + 1) :: (vs ++ dvs)) (Value.ref (hp.objs.size + 1) :: (us ++ ds)) := .cons rfl (r1.append hd)
  have hl : (Value.ref (hp.objs.size + 1) :: us ++ ds).length = ps.length := by
    have e := r2.length
    rw [F1.len _ _ _ _ hq] at e
    exact e.symm
  have hus : us.length ≤ sizeLine := by
    rw [← Paired.length r1, sizeLine_eq]
    omega
  refine wpAny_call (PySem.HandSPX.call_own F.excBase_ValueError (fun Y => PySem.HandSPX.refsVE_contains Y bm hbm) (I1.kIn _ _ hC) (PySem.W.looks_findIn I1.kIn iC) (fun self => PySem.W.bind_fn I1.kIn self tI) hus
    (codeAny_mono (F1.run _ X.stack _ _ ⟨Value.ref (hp.objs.size + 1) :: us, []⟩ (Value.ref (hp.objs.size + 1) :: (us ++ ds)) _ _ (fun _ _ _ => False) (hr.make C us []) (I2.env0.make C us []) (hb _ (Value.ref (hp.objs.size + 1) :: us) I2.kIn hl) r2 hq) fun r s' hq' => ?_))
  match r, hq' with
  | .error er, hq' => exact hx pins σ _ _ er s' I2 hq'
  | .ok .next, hq' => exact False.elim hq'
  | .ok .brk, hq' => exact False.elim hq'
  | .ok .cont, hq' => exact False.elim hq'
  | .ok (.ret u), hq' =>
    obtain ⟨v, H2, J, rv, ev, d, fs, ea, ed, q2⟩ := I2.after hq'
    subst ev
    exact ⟨rv, .ref (hp.objs.size + 1), _, inv_kept2 J ea ed, rfl, q2⟩
end
/-! ### fields, isinstance -/
def tXk (K : PySem.W.Frag) (C : Addr) (f : Str) (te : TE) : TE := fun σ H Q => te σ H fun x H1 => ∃ (a d : Addr) (fs : List (Str × V)) (v : V), x = .ref a ∧ H1 a = some (exk a C d) ∧ H1 d = some (.xd fs) ∧ fs.lookup f = some v ∧ Q v H1
section
variable {X : Cx} {C : Addr} {e : Expr} {te : TE} {pos : Pos} {n : Str}
theorem exk_inst {pins : List (Addr × Obj)} {σ : L2.St} {H1 : Hp} {s1 : Shared} {a d : Addr} {fs : List (Str × V)} (I1 : Inv X pins σ H1 s1) (ea : H1 a = some (exk a C d)) (ed : H1 d = some (.xd fs)) :
    ∃ oe od, PySem.W.InstAt s1.heap a oe C (some od) ∧ (∀ n v, fs.lookup n = some v → ∃ u, RelV v u ∧ ∃ mA, s1.heap.Ns1 d mA ∧ mA n = some u) ∧ s1.heap.get? d = some od := by
  obtain ⟨oe, vs, h1, h2, h3⟩ := exk_at I1.hok ea
  have hx : ObjOk X.prog X.w H1 s1.heap d (.xd fs) := I1.hok d _ ed
  obtain ⟨mA, hns, hr⟩ := hx
  obtain ⟨od, ho, hl⟩ := lookIn_ns hns
  refine ⟨oe, od, ⟨h1, h2.1, by unfold PySem.W.notCls; rw [h3] <;> rfl, by rw [h2.2]; exact ho⟩, fun n v l => ?_, ho⟩
  obtain ⟨u, hu, ru⟩ := RelO.some_of (v := v) (o := mA n) (by rw [← l]; exact hr n)
  exact ⟨u, ru, mA, hns, hu⟩
theorem pe_xk (T : XfC X.K C) (hno : PySem.W.findIn X.K (.ref C) n = some none) (he : PE X e te) (hb : attributeBase e n X.env (eval e X.env) = eval e X.env := by rfl) : PE X (.Attribute e n pos) (tXk X.K C n te) := by
  refine ⟨fun pins s σ H Q I h => ?_⟩
  refine attr_of hb (thn (he.run pins s σ H _ I h) fun u s1 hh => ?_)
  obtain ⟨x, H1, I1, rx, a, d, fs, v, ex, ea, ed, l, q⟩ := hh
  subst ex
  obtain rfl : u = Value.ref a := rx
  obtain ⟨oe, vs, h1, h2, h3⟩ := exk_at I1.hok ea
  have hx : ObjOk X.prog X.w H1 s1.heap d (.xd fs) := I1.hok d _ ed
  obtain ⟨mA, hns, hr⟩ := hx
  obtain ⟨od, ho, hl⟩ := lookIn_ns hns
  obtain ⟨u, hu, ru⟩ := RelO.some_of (v := v) (o := mA n) (by rw [← l]; exact hr n)
  have J : PySem.W.InstAt s1.heap a oe C (some od) := ⟨h1, h2.1, by unfold PySem.W.notCls; rw [h3] <;> rfl, by rw [h2.2]; exact ho⟩
  exact HandSPX.exc_get I1.kIn J T.ga T.gg T.exC (PySem.W.findObj_own T.hdC hno rfl (by rw [hl, hu])) (handed_of ru) ⟨v, H1, I1.tok _, ru, q⟩
/-- isinstance(e, c), e such a value -/
def rIsK (K : PySem.W.Frag) (D : Addr) : List V → Hp → VK → Prop := fun xs H Q => ∃ (a d : Addr) (fs : List (Str × V)) (c : V) (cv : Value) (b : Bool), xs = [.ref a, c] ∧ H a = some (exk a D d) ∧ H d = some (.xd fs) ∧ (∀ u, RelV c u → u = cv) ∧ PySem.W.kitOne K (.ref D) cv = some b ∧ Q (.bl b) H
theorem call_isK {D : Addr} (C : ExcC X.K D) : CallR X (.builtin "isinstance") (rIsK X.K D) := by
  intro pins s σ H xs us Q I r hh
  obtain ⟨a, d, fs, c, cv, b, rfl, ea, ed, hcv, ek, q⟩ := hh
  obtain ⟨u1, u2, rfl, r1, r2⟩ := vals2 r
  cases r1
  obtain rfl := hcv _ r2
  obtain ⟨oe, od, J, _, _⟩ := exk_inst I ea ed
  obtain ⟨cd, hc, _⟩ := PySem.W.any_some C.hd
  exact PySem.W.kia_one (PySem.W.kitx_exc (od := some od) (by rw [hc]; rfl) C.hg C.hk C.hs C.ha C.hn C.ht C.hm) I.kIn J ek (fun z => nomatch z) fun tk => ⟨.bl b, H, I.tok tk, rfl, q⟩
end
/-! ### except C as n: y = n: the caught exception is kept -/
def wKp (K : PySem.W.Frag) (c : Value) (i j : Nat) (Wout : WX) (D : Ends) : WX := fun cls d σ H =>
  ∃ b, PySem.W.exmOne K cls c = some b ∧ (b = true → ∃ C dd : Addr, cls = .ref C ∧ d = some dd ∧ i < σ.length ∧ ∀ a, H a = none → D.nx (((σ.set i (some (.ref a))).set j (some (.ref a))).set i none) (upd H a (exk a C dd))) ∧ (b = false → Wout cls d σ H)
section
variable {X : Cx} {x n : Str} {c : Value} {i j : Nat} {body : List Stmt} {st : Stmt} {np pos pos' : Pos} {tb : WX → TS} {Wout : WX}
theorem inv_unsuite {pins : List (Addr × Obj)} {σ : L2.St} {H : Hp} {s : Shared} {a : Addr} {q : Addr × Obj} {pn' : List (Addr × Obj)} (I : Inv (X.suite a (q :: (X.pn ++ pins))) pn' σ H s) (ok : X.Ok) : Inv X (q :: pins) σ H s :=
  ⟨ok, I.os, I.bare, I.base, I.loc, I.cell, I.free, I.freeC, fun p hp => I.pin p (List.mem_append_left _ (by
    rcases List.mem_append.mp hp with h | h
    · exact List.mem_cons_of_mem _ (List.mem_append_left _ h)
    · rcases List.mem_cons.mp h with h | h
      · rw [h]; exact List.mem_cons_self
      · exact List.mem_cons_of_mem _ (List.mem_append_right _ h))), I.hok, I.len⟩
theorem inv_unpin {pins : List (Addr × Obj)} {σ : L2.St} {H : Hp} {s : Shared} {q : Addr × Obj} (I : Inv X (q :: pins) σ H s) : Inv X pins σ H s :=
  I.pins_of fun p hp => I.pin p (List.mem_append_right _ (List.mem_cons_of_mem _ hp))
theorem ps_try_keep (hs : X.stack = X.env :: X.outer) (hf : X.env.frame = some X.env.locals) (hex : X.ex = []) (hN : X.N.Nodup) (hi : X.N[i]? = some n) (hln : X.env.kindOf n = some .local) (hc : Names X x c) (tk : Takes X Wout)
    (hb : ∀ (W : WX) (pn : List (Addr × Obj)) (xe : Value → Shared → Prop), Takes (X.tr pn xe) W → PassesOwn (model X.prog X.w) X.A X.env xe → PSs (X.tr pn xe) body (tb W))
    (hsu : ∀ (a : Addr) (pn : List (Addr × Obj)), PS (X.suite a pn) st (tAsg (tVar i) (L2.gName j))) :
    PS X (.Try body [.ExceptHandler (some (.Name x np)) (some n) [st] pos'] [] [] pos) (fun D σ H => tb (wKp X.K c i j Wout D) D σ H) := by
  refine ⟨fun pins s σ H D I h => ?_⟩
  have ok := I.ok
  have hfr : X.A.frames = some (X.env :: X.outer) := by rw [ok.frames, hs]
  have hloc : Loc X.env.scope n := .inl hln
  refine wpAny_Try_except ?_
  refine wpAny_mono ((hb (wKp X.K c i j Wout D) (X.pn ++ pins) (fun e s₁ => wpAny (model X.prog X.w) X.A (noteFrame e X.env) (fun _ s₂ => wpAny (model X.prog X.w) X.A (setFlight e none) (fun _ s₃ =>
    wpAny (model X.prog X.w) X.A (handleBy e X.env [.ExceptHandler (some (.Name x np)) (some n) [st] pos']) (SP X pins D) X.xe s₃) X.xe s₂) X.xe s₁) (fun u s' xx => ?_) PassesOwn.looking).run [] s σ H D (I.toTry _) h) (fun f s1 hsp => ?_) (fun e s1 he => he)
  · obtain ⟨a, B, sI, pins', σ', H', cls, d, rfl, J', nb, up, sky, na, os, ag, b, hb1, hyes, hno⟩ := xx
    have J : Inv X pins σ' H' sI := J'.ofTry ok
    have sky' : Sky B (X.env :: X.outer) a (Zc cls d) X.env.locals s'.heap := by rw [← hs]; exact sky
    show wpAny (model X.prog X.w) X.A (noteFrame (.ref a) X.env) _ _ _
    refine Sky.land Zc.steady hfr hf sky' fun h3 fl3 up3 => ?_
    have J3 : Inv X pins σ' H' { s' with heap := h3 } := J.landed nb fl3.1 (up.trans up3) os ag
    obtain ⟨oe3, vs3, he3, hz3, hd3⟩ := fl3.there
    have notFr : ∀ {h : Heap} {o : Obj} {vs : Array Value}, h.FunFrames B (X.env :: X.outer) → h.get? a = some o → o.data = .fields vs → a ∉ frs (X.env :: X.outer) := fun {h o vs} ff e dd hm => by
      obtain ⟨_, o', e', hnf⟩ := ff.mem hm
      rw [e] at e'; cases e'
      exact hnf _ dd
    have nfr := notFr fl3.2.2.1 he3 hd3
    have nL : a ≠ X.env.locals := fun z => nfr (List.mem_filterMap.mpr ⟨X.env, List.mem_cons_self, by rw [hf, z]⟩)
    have nF : a ∉ X.fs := fun hm => by
      obtain ⟨e, he, q⟩ := List.mem_filterMap.mp hm
      exact nfr (List.mem_filterMap.mpr ⟨e, List.mem_cons_of_mem _ he, q⟩)
    have S3 := J3.suite he3 hd3 na nL nF
    refine wpAny_handleBy_cons (codeAny_handlers_test ?_) (by intro q; cases q)
    have LT : PySem.W.Looks (model X.prog X.w) h3 (typeOf (.ref a)) cls := fun A Q E s k q => wpAny_typeOf_ref (k _ _ he3) (by rw [hz3.1]; exact q)
    have LM := PySem.W.exm_one (M := model X.prog X.w) (J3.kIn) LT hb1
    have test : ∀ {Q : Value → Shared → Prop} {E : Value → Shared → Prop}, Q c { s' with heap := h3 } → wpAny (model X.prog X.w) (X.A.mark (some (.ref a))) (eval (.Name x np) X.env) Q E { s' with heap := h3 } := fun {Q E} q => by
      obtain ⟨hg, hdbg, hm | ⟨hm, hv, hnn⟩⟩ := hc
      · exact ld_glob (X := X.suite a ((a, oe3) :: (X.pn ++ pins))) S3 hg hm q hdbg
      · exact ld_blt (X := X.suite a ((a, oe3) :: (X.pn ++ pins))) S3 hg hm hv q hnn hdbg
    refine test (LM.here ?_)
    cases b with
    | true =>
      refine codeAny_handlers_suite_as ?_
      refine HandSPX.lands_againZ fl3 fun h4 fl4 up4 => ?_
      have J4 : Inv X pins σ' H' { s' with heap := h4 } := J.landed nb fl4.1 ((up.trans up3).trans up4) os ag
      obtain ⟨oe4, vs4, he4, hz4, hd4⟩ := fl4.there
      have S4 := J4.suite he4 hd4 na nL nF
      obtain ⟨C, dd, rfl, rfl, hil, hq⟩ := hyes rfl
      refine store_ok (X := X.suite a ((a, oe4) :: (X.pn ++ pins))) (v := .ref a) S4 hN hi hloc rfl (fun s5 S5 => ?_) (.inr hln)
      refine wpAny_mono ((pss_one (hsu a ((a, oe4) :: (X.pn ++ pins)))).run [] s5 _ H' { nx := fun σ6 H6 => σ6 = (σ'.set i (some (.ref a))).set j (some (.ref a)) ∧ H6 = H', rt := fun _ _ => False } S5 ⟨.ref a, by rw [List.getElem?_set, if_pos rfl, if_pos hil], rfl, rfl⟩) (fun f s6 hsp => ?_) (fun _ _ z => False.elim z)
      cases f with
      | next =>
        obtain ⟨σ6, H6, S6, e1, e2⟩ := hsp
        subst e1
        subst e2
        refine gone_ok (inv_unsuite S6 ok) hN hi hln fun s7 J7 => ?_
        obtain ⟨p1, p2, p3, p4, p5⟩ := J7.pin (a, oe4) (List.mem_append_right _ List.mem_cons_self)
        have gone : ∀ q : Addr, q ∉ frs X.stack → (∃ o, sI.heap.get? q = some o) → q ≠ a := fun q hq ⟨o, e⟩ z => by
          have e2 := nb q o e hq
          rw [z, fl3.2.1] at e2
          cases e2
        have n0 : X.s_0.heap.get? a = none := by
          cases e : X.s_0.heap.get? a with
          | none => rfl
          | some o => exact absurd rfl (gone a (by rw [hs]; exact nfr) (J.base.there a o e (by rw [hex]; exact fun z => nomatch z)))
        refine ⟨_, _, inv_track (o := exk a C dd) (inv_unpin J7) n0 p2 p3 (fun y cc e z => ?_) (fun p hp => ?_) (exk_ok p1 hz4 hd4), hq a na⟩
        · obtain ⟨v, o, ho, hd⟩ := J7.cell y cc e
          rw [z, p1] at ho
          cases ho
          exact p5 v hd
        · obtain ⟨e, n, ne, nf, _⟩ := J.pin p hp
          exact gone p.1 (fun hm => (List.mem_cons.mp (J.stkSub p.1 hm)).elim ne nf) ⟨_, e⟩
      | brk =>
        obtain ⟨σ6, H6, S6, e1⟩ := hsp
        exact e1.elim
      | cont =>
        obtain ⟨σ6, H6, S6, e1⟩ := hsp
        exact e1.elim
      | ret u =>
        obtain ⟨v6, σ6, H6, S6, r6, e1⟩ := hsp
        exact e1.elim
    | false =>
      show wpAny _ X.A (handleBy (.ref a) X.env []) _ _ _
      refine wpAny_handleBy_nil ?_
      obtain ⟨k1, k2, k3, oe, vs, T, oT, ts', he, hz, hd, h1, hr⟩ := id fl3
      unfold PySem.passOn
      refine wpAny_bind (wpAny_field he hd h1 ?_)
      rw [if_neg (show ¬ ((Value.ref T == Value.none) = true) from by simp)]
      have fin : wpAny (model X.prog X.w) X.A (setFlight (.ref a) X.env.frame) (fun _ s4 => wpAny (model X.prog X.w) X.A (throw (.ref a) : Sem Flow) (SP X pins D) X.xe s4) X.xe { s' with heap := h3 } := by
        rw [hf]
        refine HandSPX.setFlight_upZ fl3 fun h4 hh4 up4 => wpAny_throw (tk _ _ ?_)
        exact ⟨a, B, sI, pins, σ', H', cls, d, rfl, J, nb, (up.trans up3).trans up4, .inr (.inr (by rw [hs]; exact hh4)), na, os, ag, hno rfl⟩
      first
        | exact wpAny_bind (wpAny_pure (wpAny_bind fin))
        | exact wpAny_bind fin
  · cases f with
    | next =>
      obtain ⟨σ', H', J', q⟩ := hsp
      exact wpAny_execs_nil ⟨σ', H', J'.ofTry ok, q⟩
    | brk =>
      obtain ⟨σ', H', J', q⟩ := hsp
      exact ⟨σ', H', J'.ofTry ok, q⟩
    | cont =>
      obtain ⟨σ', H', J', q⟩ := hsp
      exact ⟨σ', H', J'.ofTry ok, q⟩
    | ret u =>
      obtain ⟨v, σ', H', J', r, q⟩ := hsp
      exact ⟨v, σ', H', J'.ofTry ok, r, q⟩
end
/-! ### over data -/
/-- the class and the fields of a kept exception -/
def xv? (s : Sto) : D → Option (Str × List (Str × D))
  | .ref n => match s[n]? with
    | some (.exv c m) => (match s[m]? with
      | some (.xd fs) => some (c, fs)
      | _ => none)
    | _ => none
  | _ => none
def gXat (c f : Str) (g : GE) : GE := fun ρ s => (g ρ s).bind fun x s1 => match xv? s1 x with
  | some (c', fs) => if c' = c then (match valD fs f with
    | some d => .ok d s1
    | none => .bad) else .bad
  | none => .bad
def gXIs (c : Str) (b : Bool) (g : GE) : GE := fun ρ s => (g ρ s).bind fun x s1 => match xv? s1 x with
  | some (c', _) => if c' = c then .ok (.bl b) s1 else .bad
  | none => .bad
/-- where a kept exception lies -/
def addX (c : Str) (fs : List (Str × D)) (s : Sto) : Sto := s ++ [.xd fs] ++ [.exv c s.length]
def mkX (c f g : Str) (l : List D) (s1 : Sto) : Res D := match l with
  | [x, y] => .ok (.ref (s1.length + 1)) (addX c [(g, y), (f, x)] s1)
  | _ => .bad
def gMkO (c f g : Str) (gl : GA) : GE := fun ρ s => (gl ρ s).bind (mkX c f g)
def gTryK (yes no : List Str) (i j : Nat) (b : GS) : GS := fun ρ s => match b ρ s with
  | .err e ρ1 s1 => if e.cls ∈ yes ∧ i < ρ1.length then (match e.fs with
    | some l => .nx (((ρ1.set i none).set j (some (.ref (s1.length + 1)))).set i none) (addX e.cls l s1)
    | none => .bad) else if e.cls ∈ no then .err e ρ1 s1 else .bad
  | r => r
section
variable {X : Cx} {W : WX} {K : PySem.W.Frag} {α α' α1 α2 : List Addr} {H H' H1 H2 : Hp} {s s' s1 s2 : Sto} {ρ ρ' : En} {σ σ' : L2.St}
theorem xv_rep {x : D} {c : Str} {fs : List (Str × D)} {v : V} (S : SOk K α H s) (h : xv? s x = some (c, fs)) (r : Rep K α H x v) : ∃ a d fv, v = .ref a ∧ H a = some (exk a (He.ga K c) d) ∧ H d = some (.xd fv) ∧ RepF K α H fs fv := by
  cases x with
  | ref n =>
    have h0 : (match s[n]? with
    | some (.exv c m) => (match s[m]? with
      | some (.xd fs) => some (c, fs)
      | _ => none)
    | _ => none : Option (Str × List (Str × D))) = some (c, fs) := h
    obtain ⟨a, h1, h2⟩ := r
    cases e : s[n]? with
    | none => rw [e] at h0; cases h0
    | some o =>
      rw [e] at h0
      cases o with
      | exv c' m =>
        cases e2 : s[m]? with
        | none => dsimp only at h0; rw [e2] at h0; cases h0
        | some o2 =>
          dsimp only at h0
          rw [e2] at h0
          cases o2 with
          | xd l =>
            cases h0
            obtain ⟨a1, q1, d, q2, q3⟩ := S.at_ n _ e
            rw [h1] at q1
            cases q1
            obtain ⟨d1, k1, fv, k2, k3⟩ := S.at_ m _ e2
            rw [q2] at k1
            cases k1
            exact ⟨a, d, fv, h2, q3, k2, k3⟩
          | _ => cases h0
      | _ => cases h0
  | _ => cases h
theorem SOk.addX {dd a : Addr} {c : Str} {l : List (Str × D)} {fv : List (Str × V)} (S : SOk K α H s) (h : H dd = some (.xd fv)) (r : RepF K α H l fv) (na : H a = none) :
    SOk K (α ++ [dd] ++ [a]) (upd H a (exk a (He.ga K c) dd)) (PD.addX c l s) ∧ Le K α H (α ++ [dd] ++ [a]) (upd H a (exk a (He.ga K c) dd)) ∧ (α ++ [dd] ++ [a])[s.length + 1]? = some a := by
  have S2 := S.addxd h r
  have l1 : Le K α H (α ++ [dd]) H := Le.grow dd
  obtain ⟨S3, l3⟩ := SOk.alloc (o := O.exv c s.length) (u := exk a (He.ga K c) dd) S2 na (fun α' H' l z => ⟨dd, l.get (by rw [← S.len, List.getElem?_append_right (Nat.le_refl _), Nat.sub_self]; rfl), z⟩)
  refine ⟨S3, l1.trans l3, ?_⟩
  rw [List.getElem?_append_right (by rw [List.length_append, S.len]; exact Nat.le_refl _), List.length_append, S.len, List.length_singleton, Nat.sub_self]
  rfl
section
variable {o : Expr} {go : GE} {pos p p2 p4 p5 : Pos} {c f : Str}
theorem je_xat (T : XfC X.K (He.ga X.K c)) (hno : PySem.W.findIn X.K (.ref (He.ga X.K c)) f = some none) (ho : JE X W o go) (hb : attributeBase o f X.env (eval o X.env) = eval o X.env := by rfl) : JE X W (.Attribute o f pos) (gXat c f go) := by
  obtain ⟨t, p1, q1⟩ := ho
  refine ⟨_, pe_xk T hno p1 hb, fun ρ s σ α H Q E S h => q1 ρ s σ α H _ E S (Post.bind h fun d s1 v α1 H1 l1 S1 R1 h1 => ?_)⟩
  cases z : xv? s1 d with
  | none => rw [z] at h1; exact h1.elim
  | some r =>
    obtain ⟨c', fs⟩ := r
    rw [z] at h1
    have h2 : Post X.K (Rep X.K) W α1 H1 σ (if c' = c then (match valD fs f with
    | some d => .ok d s1
    | none => .bad) else .bad) Q := h1
    by_cases hc : c' = c
    · subst hc
      rw [if_pos rfl] at h2
      obtain ⟨a, d, fv, rfl, ea, ed, rf⟩ := xv_rep S1 z R1
      obtain ⟨f1, f2⟩ := rf.val (k := f)
      cases z2 : valD fs f with
      | none => rw [z2] at h2; exact h2.elim
      | some y =>
        rw [z2] at h2
        obtain ⟨u, g1, g2⟩ := f1 y z2
        exact ⟨a, d, fv, u, rfl, ea, ed, (lookup_val fv f).trans g1, Post.here h2 S1 g2⟩
    · rw [if_neg hc] at h2
      exact h2.elim
theorem xis_ref {C : V} {cv : Value} {b : Bool} {t : TE} (hcv : ∀ u, RelV C u → u = cv) (hk : PySem.W.kitOne K (.ref (He.ga K c)) cv = some b) (q1 : RefE K W t go) : RefE K W (tCB (rIsK K (He.ga K c)) (tCons t (tCons (tC C) tNil))) (gXIs c b go) := fun ρ s σ α H Q E S h => by
  refine q1 ρ s σ α H _ E S (Post.bind h fun d s1 v α1 H1 l1 S1 R1 h1 => ?_)
  cases z : xv? s1 d with
  | none => rw [z] at h1; exact h1.elim
  | some r =>
    obtain ⟨c', fs⟩ := r
    rw [z] at h1
    have h2 : Post K (Rep K) W α1 H1 σ (if c' = c then .ok (.bl b) s1 else .bad) Q := h1
    by_cases hc : c' = c
    · subst hc
      rw [if_pos rfl] at h2
      obtain ⟨a, d, fv, rfl, ea, ed, rf⟩ := xv_rep S1 z R1
      exact ⟨a, d, fv, C, cv, b, rfl, ea, ed, hcv, hk, Post.here h2 S1 rfl⟩
    · rw [if_neg hc] at h2
      exact h2.elim
/-- an own class -/
theorem je_xis {C : Str} {b : Bool} (hE : ExcC X.K (He.ga X.K c)) (hk : PySem.W.kitOne X.K (.ref (He.ga X.K c)) (.ref (He.ga X.K C)) = some b)
    (hgC : X.mg C = some (.ref (He.ga X.K C))) (hm : X.mg "isinstance" = none) (ho : JE X W o go) (hg0 : Gl X "isinstance" := by rfl) (hg : Gl X C := by rfl) (hd2 : (C == ("__debug__" : Str)) = false := by decide)
    (he : starEach [o, .Name C p4] X.env = (false, eval o X.env) :: starEach [.Name C p4] X.env := by rfl) (he2 : starEach [.Name C p4] X.env = (false, eval (.Name C p4) X.env) :: starEach [] X.env := by rfl)
    (hpl : (backTo p5 (starEach [.Name C p4] X.env)).any (·.1) = false := by rfl) :
    JE X W (.Call (.Name "isinstance" p2) [o, .Name C p4] [] p5) (gXIs c b go) := by
  obtain ⟨t, p1, q1⟩ := ho
  exact ⟨_, pe_callB (call_isK hE) hg0 hm PyProof.Rows.boot_isinstance (pa_cons p1 (pa_cons (pe_glob (v := .ref (He.ga X.K C)) hg hgC rfl hd2) pa_nil he2) he) (by decide) (by decide) he hpl, xis_ref (fun u q => q) hk q1⟩
/-- a built-in class -/
theorem je_xisT {t0 : Str} {T : String} {b : Bool} (hE : ExcC X.K (He.ga X.K c)) (hk : PySem.W.kitOne X.K (.ref (He.ga X.K c)) (.type T) = some b)
    (hmt : X.mg t0 = none) (hbt : bootBuiltins t0 = some (.type T)) (hm : X.mg "isinstance" = none) (ho : JE X W o go) (hg0 : Gl X "isinstance" := by rfl) (hg : Gl X t0 := by rfl) (hn2 : t0 ≠ "__name__" := by decide) (hd2 : (t0 == ("__debug__" : Str)) = false := by decide)
    (he : starEach [o, .Name t0 p4] X.env = (false, eval o X.env) :: starEach [.Name t0 p4] X.env := by rfl) (he2 : starEach [.Name t0 p4] X.env = (false, eval (.Name t0 p4) X.env) :: starEach [] X.env := by rfl)
    (hpl : (backTo p5 (starEach [.Name t0 p4] X.env)).any (·.1) = false := by rfl) :
    JE X W (.Call (.Name "isinstance" p2) [o, .Name t0 p4] [] p5) (gXIs c b go) := by
  obtain ⟨t, p1, q1⟩ := ho
  exact ⟨_, pe_callB (call_isK hE) hg0 hm PyProof.Rows.boot_isinstance (pa_cons p1 (pa_cons (pe_bltn (v := .ty T) hg hmt hbt rfl hn2 hd2) pa_nil he2) he) (by decide) (by decide) he hpl, xis_ref (fun u q => (by cases q; rfl)) hk q1⟩
end
section
variable {e : Expr} {es : List Expr} {gl : GA} {p pos : Pos}
theorem je_mkO {c f g : Str} (F : Og X.prog X.w X.K X.mg X.base c f g) (hr : Room 2 X.A) (tk : Takes X W) (ha : JA X W (e :: es) gl) (hg : Gl X c := by rfl)
    (hdb : (c == ("__debug__" : Str)) = false := by decide) (he : starEach (e :: es) X.env = (false, eval e X.env) :: starEach es X.env := by rfl) (hpl : (backTo pos (starEach es X.env)).any (·.1) = false := by rfl) :
    JE X W (.Call (.Name c p) (e :: es) [] pos) (gMkO c f g gl) := by
  obtain ⟨fd, ps, h3, h4⟩ := F.ex
  obtain ⟨t, p1, q1⟩ := ha
  refine ⟨_, pe_oexV F.o F.iC F.tI h4 hr h3 .nil (passes_call tk fun c d σ H h => h.elim) hg F.glo p1 hdb he hpl, fun ρ s σ α H Q E S h => ?_⟩
  refine q1 ρ s σ α H _ E S (Post.bind h fun l s1 vs α1 H1 l1 S1 R1 h1 => ?_)
  match l, h1, R1 with
  | [x, y], h1, R1 =>
    obtain ⟨v1, r1, rfl, R2, v2, r2, rfl, R3, rfl⟩ := R1
    refine ⟨(show (2 : Nat) ≤ 1000 by decide), fun a ha => ⟨a, v1, v2, rfl, upd_same, fun dx hdx hne => ⟨rfl, dx, _, ?_, upd_same, ?_⟩⟩⟩
    · rw [upd_ne (Ne.symm hne), upd_same]
    · rw [upd_ne hne] at hdx
      have eH : upd (upd (upd (upd (upd (upd H1 a (exo a (He.ga X.K c) none)) dx (exd dx [(f, v1)])) a (exo a (He.ga X.K c) (some dx))) dx (exd dx [(g, v2), (f, v1)])) a (exk a (He.ga X.K c) dx)) dx (.xd [(g, v2), (f, v1)]) = upd (upd H1 dx (.xd [(g, v2), (f, v1)])) a (exk a (He.ga X.K c) dx) := by
        funext b
        by_cases hb : b = dx
        · subst hb
          rw [upd_same, upd_ne hne, upd_same]
        · by_cases hba : b = a
          · subst hba
            rw [upd_ne hb, upd_same, upd_same]
          · rw [upd_ne hb, upd_ne hba, upd_ne hb, upd_ne hba, upd_ne hb, upd_ne hba, upd_ne hba, upd_ne hb]
      rw [eH]
      have l2 : Le X.K α1 H1 α1 (upd H1 dx (.xd [(g, v2), (f, v1)])) := Le.new hdx
      have rf : RepF X.K α1 (upd H1 dx (.xd [(g, v2), (f, v1)])) [(g, y), (f, x)] [(g, v2), (f, v1)] := ⟨rfl, v2, [v1], rfl, R3.mono l2, v1, [], rfl, R2.mono l2, rfl⟩
      obtain ⟨S3, l3, ea⟩ := SOk.addX (c := c) (a := a) (S1.new hdx) upd_same rf (by rw [upd_ne (Ne.symm hne)]; exact ha)
      have h2 : Post X.K (Rep X.K) W α1 H1 σ (.ok (.ref (s1.length + 1)) (addX c [(g, y), (f, x)] s1)) Q := h1
      exact h2 _ _ _ (l2.trans l3) S3 ⟨a, ea, rfl⟩
end
section
variable {x : Str} {yes no : List Str} {body : List Stmt} {st : Stmt} {np pos pos' : Pos} {gb : GS}
theorem js_tryK {n y : Str} {i j : Nat} {p1 p3 p6 : Pos} (hx : X.mg x = some (.ref (He.ga X.K x))) (hy : Xm X.K x yes true) (hn : Xm X.K x no false) (tk : Takes X W) (hN : X.N.Nodup)
    (hb : ∀ (W : WX) (pn : List (Addr × Obj)) (xe : Value → Shared → Prop), Takes (X.tr pn xe) W → PassesOwn (model X.prog X.w) X.A X.env xe → JB (X.tr pn xe) W body gb)
    (hS : ∀ (a : Addr) (pn : List (Addr × Obj)), PS (X.suite a pn) (.Assign [.Name y p1] (.Name n p3) p6) (tAsg (tVar i) (L2.gName j)))
    (hi : X.N[i]? = some n := by rfl) (hln : X.env.kindOf n = some .local := by rfl) (hs : X.stack = X.env :: X.outer := by rfl) (hf : X.env.frame = some X.env.locals := by rfl) (hex : X.ex = [] := by rfl) (hg : Gl X x := by rfl) (hdb : (x == ("__debug__" : Str)) = false := by decide) :
    JS X W (.Try body [.ExceptHandler (some (.Name x np)) (some n) [.Assign [.Name y p1] (.Name n p3) p6] pos'] [] [] pos) (gTryK yes no i j gb) :=
  ⟨_, ps_try_keep (c := .ref (He.ga X.K x)) (i := i) (j := j) (tb := fun W => canonS X.K W gb) hs hf hex hN hi hln ⟨hg, hdb, .inl hx⟩ tk (fun W' pn xe t p => (hb W' pn xe t p).canon) hS,
   fun ρ s σ α H D E S h => ⟨ρ, s, α, E, S, by
    unfold gTryK at h
    cases r : gb ρ s with
    | nx ρ1 s1 => rw [r] at h; exact h
    | bk ρ1 s1 => rw [r] at h; exact h
    | ct ρ1 s1 => rw [r] at h; exact h
    | rt d s1 => rw [r] at h; exact h
    | bad => rw [r] at h; exact h
    | err e ρ1 s1 =>
      rw [r] at h
      intro c dd σ' α' H' l S' E' R
      obtain ⟨rfl, R2⟩ := id R
      have h' : SPost X.K W α H (if e.cls ∈ yes ∧ i < ρ1.length then (match e.fs with
    | some l => .nx (((ρ1.set i none).set j (some (.ref (s1.length + 1)))).set i none) (addX e.cls l s1)
    | none => .bad) else if e.cls ∈ no then .err e ρ1 s1 else .bad) D := h
      by_cases h1 : e.cls ∈ yes ∧ i < ρ1.length
      · rw [if_pos h1] at h'
        obtain ⟨g1, g3⟩ := h1
        cases hfs : e.fs with
        | none => rw [hfs] at h'; exact h'.elim
        | some fl =>
          rw [hfs] at R2 h'
          cases dd with
          | none => exact R2.elim
          | some d =>
            obtain ⟨fv, k1, k2⟩ := R2
            refine ⟨true, hy _ g1, fun _ => ⟨_, d, rfl, rfl, by rw [← E'.1]; exact g3, fun a ha => ?_⟩, fun z => (nomatch z)⟩
            obtain ⟨S3, l3, ea⟩ := SOk.addX (c := e.cls) (a := a) S' k1 k2 ha
            have E2 := ((((E'.mono l3).unsetA (i := i) (x := some (.ref a))).set (i := j) (d := .ref (s1.length + 1)) (v := .ref a) ⟨a, ea, rfl⟩).unset (i := i))
            exact h' _ _ _ (l.trans l3) S3 E2
      · rw [if_neg h1] at h'
        by_cases h2 : e.cls ∈ no
        · rw [if_pos h2] at h'
          exact ⟨false, hn _ h2, fun z => (nomatch z), fun _ => h' _ dd σ' α' H' l S' E' R⟩
        · rw [if_neg h2] at h'
          exact h'.elim⟩⟩
end
end
end PD

/-! Pdm: what is wanted of a result (EW, TW, AW, SW), and how it is asked of each form. -/
namespace PD
open PySem L2
def EW {β : Type} (r : Res β) (Q : β → Sto → Prop) : Prop := match r with
  | .ok d s => Q d s
  | _ => False
/-- next; return; break; continue -/
def SW (r : RS) (N : En → Sto → Prop) (R : D → Sto → Prop) (B C : En → Sto → Prop) : Prop := match r with
  | .nx ρ s => N ρ s
  | .rt d s => R d s
  | .bk ρ s => B ρ s
  | .ct ρ s => C ρ s
  | _ => False
/-- one of two, by a truth -/
def Br (x : Bool) (A B : Prop) : Prop := match x with
  | true => A
  | false => B
@[simp] theorem br_t {A B : Prop} : Br true A B ↔ A := Iff.rfl
@[simp] theorem br_f {A B : Prop} : Br false A B ↔ B := Iff.rfl
@[simp] theorem br_n {x : Bool} {A B : Prop} : Br (!x) A B ↔ Br x B A := by cases x <;> exact Iff.rfl
@[simp] theorem br_same {x : Bool} {A : Prop} : Br x A A ↔ A := by cases x <;> exact Iff.rfl
theorem br_of {x : Bool} {A B : Prop} (h1 : x = true → A) (h2 : x = false → B) : Br x A B := by
  cases x
  · exact h2 rfl
  · exact h1 rfl
/-- a truth is there -/
def WB (d : D) (Q : Bool → Prop) : Prop := match d with
  | .bl k => Q k
  | _ => False
@[simp] theorem wb_bl {k : Bool} {Q : Bool → Prop} : WB (.bl k) Q ↔ Q k := Iff.rfl
@[simp] theorem wb_non {Q : Bool → Prop} : WB .non Q ↔ False := Iff.rfl
@[simp] theorem wb_int {i : Int} {Q : Bool → Prop} : WB (.int i) Q ↔ False := Iff.rfl
@[simp] theorem wb_str {z : Str} {Q : Bool → Prop} : WB (.str z) Q ↔ False := Iff.rfl
@[simp] theorem wb_tup {l : List D} {Q : Bool → Prop} : WB (.tup l) Q ↔ False := Iff.rfl
@[simp] theorem wb_ref {n : Nat} {Q : Bool → Prop} : WB (.ref n) Q ↔ False := Iff.rfl
@[simp] theorem wb_hot {a : Addr} {dn : Option (Addr × Nat)} {Q : Bool → Prop} : WB (.hot a dn) Q ↔ False := Iff.rfl
/-- an item is there -/
def WO {β : Type} (o : Option β) (Q : β → Prop) : Prop := match o with
  | some k => Q k
  | none => False
@[simp] theorem wo_some {β : Type} {k : β} {Q : β → Prop} : WO (some k) Q ↔ Q k := Iff.rfl
@[simp] theorem wo_none {β : Type} {Q : β → Prop} : WO (none : Option β) Q ↔ False := Iff.rfl
theorem WO.of {β : Type} {o : Option β} {k : β} {Q : β → Prop} (e : o = some k) (h : Q k) : WO o Q := by
  rw [e]
  exact h
/-- a method is there -/
def MW (m : Str) (tab : List (Str × Fn)) (x : D) (s : Sto) (P : Fn → Prop) : Prop := ∃ c fs fn, ins? s x = some (c, fs) ∧ tab.find? (fun q => decide (q.1 = c)) = some (c, fn) ∧ fldD fs m = none ∧ P fn
theorem mw_of {m : Str} {tab : List (Str × Fn)} {x : D} {s : Sto} {P : Fn → Prop} {c : Str} {fs : List (Str × D)} {fn : Fn} (hi : ins? s x = some (c, fs)) (ht : tab.find? (fun q => decide (q.1 = c)) = some (c, fn)) (hf : fldD fs m = none) : MW m tab x s P ↔ P fn := by
  constructor
  · rintro ⟨c', fs', fn', e1, e2, _, q⟩
    rw [hi] at e1
    cases e1
    rw [ht] at e2
    cases e2
    exact q
  · exact fun q => ⟨c, fs, fn, hi, ht, hf, q⟩
/-- by a test that is decided -/
theorem br_d {p : Prop} [Decidable p] {A B : Prop} (h1 : p → A) (h2 : ¬ p → B) : Br (decide p) A B := br_of (fun h => h1 (of_decide_eq_true h)) (fun h => h2 (of_decide_eq_false h))
section
variable {β γ : Type} {ρ ρ' : En} {s s' s1 : Sto} {N B C : En → Sto → Prop} {R : D → Sto → Prop} {Q : D → Sto → Prop}
@[simp] theorem ew_ok {d : β} {Q : β → Sto → Prop} : EW (.ok d s) Q ↔ Q d s := Iff.rfl
@[simp] theorem ew_bad {Q : β → Sto → Prop} : EW (.bad : Res β) Q ↔ False := Iff.rfl
@[simp] theorem ew_err {e : Exn} {Q : β → Sto → Prop} : EW (.err e s : Res β) Q ↔ False := Iff.rfl
@[simp] theorem ew_bind {r : Res β} {k : β → Sto → Res γ} {Q : γ → Sto → Prop} : EW (r.bind k) Q ↔ EW r fun d s => EW (k d s) Q := by
  cases r <;> exact Iff.rfl
@[simp] theorem ew_still {r : Res β} {Q : β → Sto → Prop} : EW r.still Q ↔ EW r Q := by
  cases r <;> exact Iff.rfl
theorem EW.mono {r : Res β} {Q Q' : β → Sto → Prop} (h : EW r Q) (i : ∀ d s, Q d s → Q' d s) : EW r Q' := by
  cases r with
  | ok d s => exact i d s h
  | err e s => exact h
  | bad => exact h
theorem EW.ex {r : Res β} {Q : β → Sto → Prop} (h : EW r Q) : ∃ d s, r = .ok d s ∧ Q d s := by
  cases r with
  | ok d s => exact ⟨d, s, rfl, h⟩
  | err e s => exact h.elim
  | bad => exact h.elim
theorem EW.of {r : Res β} {Q : β → Sto → Prop} {d : β} {s : Sto} (e : r = .ok d s) (h : Q d s) : EW r Q := by
  rw [e]
  exact h
@[simp] theorem sw_nx : SW (.nx ρ s) N R B C ↔ N ρ s := Iff.rfl
@[simp] theorem sw_rt {d : D} : SW (.rt d s) N R B C ↔ R d s := Iff.rfl
@[simp] theorem sw_bk : SW (.bk ρ s) N R B C ↔ B ρ s := Iff.rfl
@[simp] theorem sw_ct : SW (.ct ρ s) N R B C ↔ C ρ s := Iff.rfl
@[simp] theorem sw_bad : SW .bad N R B C ↔ False := Iff.rfl
@[simp] theorem sw_err {e : Exn} : SW (.err e ρ s) N R B C ↔ False := Iff.rfl
@[simp] theorem sw_st {r : Res β} {k : β → Sto → RS} : SW (r.st ρ k) N R B C ↔ EW r fun d s => SW (k d s) N R B C := by
  cases r <;> exact Iff.rfl
@[simp] theorem sw_next {r : RS} {k : En → Sto → RS} : SW (r.next k) N R B C ↔ SW r (fun ρ s => SW (k ρ s) N R B C) R B C := by
  cases r <;> exact Iff.rfl
theorem SW.mono {r : RS} {N' B' C' : En → Sto → Prop} {R' : D → Sto → Prop} (h : SW r N R B C) (hN : ∀ ρ s, N ρ s → N' ρ s) (hR : ∀ d s, R d s → R' d s) (hB : ∀ ρ s, B ρ s → B' ρ s) (hC : ∀ ρ s, C ρ s → C' ρ s) : SW r N' R' B' C' := by
  cases r with
  | nx ρ s => exact hN _ _ h
  | rt d s => exact hR _ _ h
  | bk ρ s => exact hB _ _ h
  | ct ρ s => exact hC _ _ h
  | err e ρ s => exact h
  | bad => exact h
/-- a def's run -/
theorem ew_run {n p : Nat} {b : GS} {ds : List D} {Q : D → Sto → Prop} (hl : ds.length = p) : EW (run n p b ds s) Q ↔ SW (b (startD n ds) s) (fun _ s => Q .non s) Q (fun _ _ => False) (fun _ _ => False) := by
  unfold run
  rw [if_pos (decide_eq_true hl)]
  cases b (startD n ds) s <;> exact Iff.rfl
variable {a b c o i : GE} {gl : GA} {t u : GT} {gs gr : GS} {op op' : Op2}
@[simp] theorem ew_var {i : Nat} : EW (gVar i ρ s) Q ↔ WO ρ[i]? fun o => WO o fun d => Q d s := by
  unfold gVar
  cases h : ρ[i]? with
  | none => simp
  | some o => cases o <;> simp
@[simp] theorem ew_c {d : D} : EW (gC d ρ s) Q ↔ Q d s := Iff.rfl
@[simp] theorem ew_op : EW (gOp op a b ρ s) Q ↔ EW (a ρ s) fun x s1 => EW (b ρ s1) fun y s2 => EW (op x y s2) Q := by
  simp [gOp]
@[simp] theorem ew_quiet {x y : D} : EW (quiet op x y s) Q ↔ EW (op x y s) Q := by simp [quiet]
@[simp] theorem ew_un {op : D → Sto → Res D} : EW (gUn op a ρ s) Q ↔ EW (a ρ s) fun x s1 => EW (op x s1) Q := by simp [gUn]
@[simp] theorem ew_T {Q : Bool → Sto → Prop} : EW (gT a ρ s) Q ↔ EW (a ρ s) fun x s1 => WO (tru? s1 x) fun k => Q k s1 := by
  unfold gT
  rw [ew_bind]
  apply iff_of_eq
  congr 1
  funext x s1
  cases h : tru? s1 x <;> simp [h]
@[simp] theorem ew_Tb {Q : Bool → Sto → Prop} : EW (gTb a ρ s) Q ↔ EW (a ρ s) fun x s1 => WB x fun k => Q k s1 := by
  unfold gTb
  rw [ew_bind]
  apply iff_of_eq
  congr 1
  funext x s1
  cases x <;> simp
@[simp] theorem ew_not {Q : Bool → Sto → Prop} : EW (gNot t ρ s) Q ↔ EW (t ρ s) fun x s1 => Q (!x) s1 := by simp [gNot]
@[simp] theorem ew_and {Q : Bool → Sto → Prop} : EW (gAnd t u ρ s) Q ↔ EW (t ρ s) fun x s1 => Br x (EW (u ρ s1) Q) (Q false s1) := by
  unfold gAnd
  rw [ew_bind]
  apply iff_of_eq
  congr 1
  funext x s1
  cases x <;> simp
@[simp] theorem ew_or {Q : Bool → Sto → Prop} : EW (gOr t u ρ s) Q ↔ EW (t ρ s) fun x s1 => Br x (Q true s1) (EW (u ρ s1) Q) := by
  unfold gOr
  rw [ew_bind]
  apply iff_of_eq
  congr 1
  funext x s1
  cases x <;> simp
@[simp] theorem ew_andV : EW (gAndV a b ρ s) Q ↔ EW (a ρ s) fun x s1 => WB x fun k => Br k (EW (b ρ s1) Q) (Q (.bl false) s1) := by
  unfold gAndV
  rw [ew_bind]
  apply iff_of_eq
  congr 1
  funext x s1
  cases x with
  | bl k => cases k <;> simp
  | _ => simp
@[simp] theorem ew_orV : EW (gOrV a b ρ s) Q ↔ EW (a ρ s) fun x s1 => WB x fun k => Br k (Q (.bl true) s1) (EW (b ρ s1) Q) := by
  unfold gOrV
  rw [ew_bind]
  apply iff_of_eq
  congr 1
  funext x s1
  cases x with
  | bl k => cases k <;> simp
  | _ => simp
@[simp] theorem ew_notV : EW (gNotV a ρ s) Q ↔ EW (a ρ s) fun x s1 => WB x fun k => Q (.bl (!k)) s1 := by
  unfold gNotV
  rw [ew_bind]
  apply iff_of_eq
  congr 1
  funext x s1
  cases x <;> simp
@[simp] theorem ew_ifE : EW (gIfE t a b ρ s) Q ↔ EW (t ρ s) fun x s1 => Br x (EW (a ρ s1) Q) (EW (b ρ s1) Q) := by
  unfold gIfE
  rw [ew_bind]
  apply iff_of_eq
  congr 1
  funext x s1
  cases x <;> simp
@[simp] theorem ew_chain : EW (gChain op op' a b c ρ s) Q ↔ EW (a ρ s) fun x s1 => EW (b ρ s1) fun y s2 => EW (op x y s2) fun z s3 => WB z fun k => Br k (EW (c ρ s3) fun w s4 => EW (op' y w s4) Q) (Q (.bl false) s3) := by
  unfold gChain
  rw [ew_bind]
  apply iff_of_eq
  congr 1
  funext x s1
  rw [ew_bind]
  congr 1
  funext y s2
  rw [ew_bind, ew_quiet]
  congr 1
  funext z s3
  cases z with
  | bl k => cases k <;> simp
  | _ => simp
@[simp] theorem ew_isI {T : Ty} : EW (gIsI T a ρ s) Q ↔ EW (a ρ s) fun x s1 => WO (tyOf s1 x) fun k => Q (.bl (k.is T)) s1 := by
  unfold gIsI
  rw [ew_bind]
  apply iff_of_eq
  congr 1
  funext x s1
  cases h : tyOf s1 x <;> simp [h]
@[simp] theorem ew_nil {Q : List D → Sto → Prop} : EW (gNil ρ s) Q ↔ Q [] s := Iff.rfl
@[simp] theorem ew_cons {Q : List D → Sto → Prop} : EW (gCons a gl ρ s) Q ↔ EW (a ρ s) fun x s1 => EW (gl ρ s1) fun l s2 => Q (x :: l) s2 := by
  simp [gCons]
@[simp] theorem ew_tup : EW (gTup gl ρ s) Q ↔ EW (gl ρ s) fun l s1 => l.length ≤ 1000000 ∧ Q (.tup l) s1 := by
  unfold gTup
  rw [ew_bind]
  apply iff_of_eq
  congr 1
  funext l s1
  by_cases h : l.length ≤ line <;> simp [h]
@[simp] theorem ew_new {ob : O} : EW (newO ob s) Q ↔ Q (.ref s.length) (s ++ [ob]) := Iff.rfl
@[simp] theorem ew_lst : EW (gLst gl ρ s) Q ↔ EW (gl ρ s) fun l s1 => l.length ≤ 1000000 ∧ Q (.ref s1.length) (s1 ++ [.lst l]) := by
  unfold gLst
  rw [ew_bind]
  apply iff_of_eq
  congr 1
  funext l s1
  by_cases h : l.length ≤ line <;> simp [h]
@[simp] theorem ew_dct0 : EW (gDct0 ρ s) Q ↔ Q (.ref s.length) (s ++ [.dk []]) := Iff.rfl
@[simp] theorem ew_call {m : Fn} : EW (gCall m gl ρ s) Q ↔ EW (gl ρ s) fun l s1 => EW (m l s1) Q := by simp [gCall]
@[simp] theorem ew_cb {op : OpC} : EW (gCB op gl ρ s) Q ↔ EW (gl ρ s) fun l s1 => EW (op l s1) Q := by simp [gCB]
@[simp] theorem ew_noPart {Q : Option Int → Sto → Prop} : EW (gNoPart ρ s) Q ↔ Q none s := Iff.rfl
@[simp] theorem ew_part {Q : Option Int → Sto → Prop} : EW (gPart a ρ s) Q ↔ EW (a ρ s) fun x s1 => ∃ i, x = .int i ∧ Q (some i) s1 := by
  unfold gPart
  rw [ew_bind]
  apply iff_of_eq
  congr 1
  funext x s1
  cases x <;> simp
@[simp] theorem ew_sl {lo hi : FO} : EW (gSl a lo hi ρ s) Q ↔ EW (a ρ s) fun x s1 => EW (lo ρ s1) fun l s2 => EW (hi ρ s2) fun h s3 => EW (slD x l h s3) Q := by simp [gSl]
@[simp] theorem ew_lm {op : OpM} : EW (gLM op a gl ρ s) Q ↔ EW (a ρ s) fun x s1 => isL s1 x = true ∧ EW (gl ρ s1) fun l s2 => EW (op x l s2) Q := by
  unfold gLM
  rw [ew_bind]
  apply iff_of_eq
  congr 1
  funext x s1
  cases h : isL s1 x <;> simp [h]
@[simp] theorem ew_sm {op : OpM} : EW (gSM op a b ρ s) Q ↔ EW (a ρ s) fun x s1 => ∃ z, x = .str z ∧ EW (b ρ s1) fun y s2 => EW (op (.str z) [y] s2) Q := by
  unfold gSM
  rw [ew_bind]
  apply iff_of_eq
  congr 1
  funext x s1
  cases x <;> simp
@[simp] theorem ew_sm0 {op : OpM} : EW (gSM0 op a ρ s) Q ↔ EW (a ρ s) fun x s1 => ∃ z, x = .str z ∧ EW (op (.str z) [] s1) Q := by
  unfold gSM0
  rw [ew_bind]
  apply iff_of_eq
  congr 1
  funext x s1
  cases x <;> simp
@[simp] theorem ew_bits : EW (gBits a ρ s) Q ↔ EW (a ρ s) fun x s1 => ∃ i, x = .int i ∧ Q (.int (Builtin.Int.intBits i : Nat)) s1 := by
  unfold gBits
  rw [ew_bind]
  apply iff_of_eq
  congr 1
  funext x s1
  cases x <;> simp
@[simp] theorem ew_get1 : EW (gGet1 a b ρ s) Q ↔ EW (a ρ s) fun x s1 => isDk s1 x = true ∧ EW (b ρ s1) fun k s2 => EW (getOf x k .non s2) Q := by
  unfold gGet1
  rw [ew_bind]
  apply iff_of_eq
  congr 1
  funext x s1
  cases h : isDk s1 x <;> simp [h]
@[simp] theorem ew_get2 : EW (gGet2 a b c ρ s) Q ↔ EW (a ρ s) fun x s1 => isDk s1 x = true ∧ EW (b ρ s1) fun k s2 => EW (c ρ s2) fun y s3 => EW (getOf x k y s3) Q := by
  unfold gGet2
  rw [ew_bind]
  apply iff_of_eq
  congr 1
  funext x s1
  cases h : isDk s1 x <;> simp [h]
@[simp] theorem ew_fld {cs : List Str} {f : Str} : EW (gFld cs f a ρ s) Q ↔ EW (a ρ s) fun x s1 => ∃ c fs d, ins? s1 x = some (c, fs) ∧ c ∈ cs ∧ fldD fs f = some d ∧ Q d s1 := by
  unfold gFld
  rw [ew_bind]
  apply iff_of_eq
  congr 1
  funext x s1
  cases h : ins? s1 x with
  | none => simp
  | some q =>
    obtain ⟨c, fs⟩ := q
    by_cases hc : c ∈ cs
    · cases h2 : fldD fs f with
      | none => simp [hc, h2]
      | some d =>
        simp only [decide_eq_true hc, if_true, h2, ew_ok]
        apply propext
        constructor
        · exact fun q => ⟨c, fs, d, rfl, hc, h2, q⟩
        · rintro ⟨c', fs', d', e1, _, e2, q⟩
          cases e1
          rw [h2] at e2
          cases e2
          exact q
    · simp [hc]
@[simp] theorem ew_meth {m : Str} {tab : List (Str × Fn)} : EW (gMeth m tab a gl ρ s) Q ↔ EW (a ρ s) fun x s1 => MW m tab x s1 fun fn => EW (gl ρ s1) fun l s2 => EW (fn (x :: l) s2) Q := by
  unfold gMeth
  rw [ew_bind]
  apply iff_of_eq
  congr 1
  funext x s1
  unfold MW
  cases h : ins? s1 x with
  | none => simp
  | some q =>
    obtain ⟨c, fs⟩ := q
    cases h1 : tab.find? (fun q => decide (q.1 = c)) with
    | none => simp [h1]
    | some r =>
      obtain ⟨c', fn⟩ := r
      have hc : c' = c := by
        have := List.find?_some h1
        simpa using this
      subst hc
      cases h2 : fldD fs m with
      | some d => simp [h1, h2]
      | none =>
        simp only [h1, h2, decide_true, if_true, ew_bind]
        apply propext
        constructor
        · exact fun q => ⟨c', fs, fn, rfl, h1, h2, q⟩
        · rintro ⟨c2, fs2, fn2, e1, e2, _, q⟩
          cases e1
          rw [h1] at e2
          cases e2
          exact q
/-! statements -/
@[simp] theorem sw_skip : SW (gSkip ρ s) N R B C ↔ N ρ s := Iff.rfl
@[simp] theorem sw_seq : SW (gSeq gs gr ρ s) N R B C ↔ SW (gs ρ s) (fun ρ s => SW (gr ρ s) N R B C) R B C := by simp [gSeq]
@[simp] theorem sw_break : SW (gBreak ρ s) N R B C ↔ B ρ s := Iff.rfl
@[simp] theorem sw_cont : SW (gCont ρ s) N R B C ↔ C ρ s := Iff.rfl
@[simp] theorem sw_expr : SW (gExpr a ρ s) N R B C ↔ EW (a ρ s) fun _ s1 => N ρ s1 := by simp [gExpr]
@[simp] theorem sw_ret : SW (gRet a ρ s) N R B C ↔ EW (a ρ s) R := by simp [gRet]
@[simp] theorem sw_retN : SW (gRetN ρ s) N R B C ↔ R .non s := Iff.rfl
@[simp] theorem sw_if : SW (gIf t gs gr ρ s) N R B C ↔ EW (t ρ s) fun x s1 => Br x (SW (gs ρ s1) N R B C) (SW (gr ρ s1) N R B C) := by
  unfold gIf
  rw [sw_st]
  apply iff_of_eq
  congr 1
  funext x s1
  cases x <;> simp
@[simp] theorem sw_set {i : Nat} : SW (gSet i a ρ s) N R B C ↔ EW (a ρ s) fun x s1 => N (ρ.set i (some x)) s1 := by simp [gSet]
@[simp] theorem sw_asg {g : FG} : SW (gAsg a g ρ s) N R B C ↔ EW (a ρ s) fun x s1 => WO (g x ρ s1) fun w => N w.1 w.2 := by
  unfold gAsg
  rw [sw_st]
  apply iff_of_eq
  congr 1
  funext x s1
  cases h : g x ρ s1 <;> simp [h]
@[simp] theorem sw_par {i j : Nat} : SW (gPar i j gl ρ s) N R B C ↔ EW (gl ρ s) fun l s1 => ∃ x y, l = [x, y] ∧ N ((ρ.set i (some x)).set j (some y)) s1 := by
  unfold gPar
  rw [sw_st]
  apply iff_of_eq
  congr 1
  funext l s1
  match l with
  | [] => simp
  | [x] => simp
  | [x, y] =>
    apply propext
    constructor
    · exact fun q => ⟨x, y, rfl, q⟩
    · rintro ⟨x', y', e, q⟩
      cases e
      exact q
  | x :: y :: z :: r => simp
/-- o[i] = e -/
def putO (x k v : D) (s : Sto) : Option Sto := match setLst x k v s with
  | some s' => some s'
  | none => setDk x k v s
@[simp] theorem sw_put : SW (gPut o i a ρ s) N R B C ↔ EW (a ρ s) fun v s1 => EW (o ρ s1) fun x s2 => EW (i ρ s2) fun k s3 => WO (putO x k v s3) fun s' => N ρ s' := by
  unfold gPut
  rw [sw_st]
  apply iff_of_eq
  congr 1
  funext v s1
  rw [sw_st]
  congr 1
  funext x s2
  rw [sw_st]
  congr 1
  funext k s3
  unfold putO
  cases h : setLst x k v s3 with
  | some s' => simp
  | none => cases h2 : setDk x k v s3 <;> simp
@[simp] theorem sw_aug {i : Nat} : SW (gAug i op a ρ s) N R B C ↔ WO ρ[i]? fun o => WO o fun d => EW (a ρ s) fun y s1 => EW (op d y s1) fun z s2 => N (ρ.set i (some z)) s2 := by
  unfold gAug
  cases h : ρ[i]? with
  | none => simp
  | some w =>
    cases w with
    | none => simp
    | some d =>
      simp only [sw_st, wo_some]
      constructor
      · intro q
        refine q.mono fun y s1 z => ?_
        cases e : op d y s1 <;> simp [e] at z ⊢ <;> exact z
      · intro q
        refine q.mono fun y s1 z => ?_
        cases e : op d y s1 <;> simp [e] at z ⊢ <;> exact z
/-! ### loops -/
/-- for: I i holds ahead of turn i; at its end N is wanted -/
theorem for_wp {it : IT} {g : FG} {b : GS} (len : Nat) (I : Nat → En → Sto → Prop)
    (step : ∀ i ρ s, i < len → I i ρ s → ∃ d, it i s = some (some d) ∧ ∃ w, g d ρ s = some w ∧ SW (b w.1 w.2) (I (i + 1)) R N (I (i + 1)))
    (stop : ∀ ρ s, I len ρ s → it len s = some none ∧ N ρ s) : ∀ (n i : Nat) (ρ : En) (s : Sto), i ≤ len → len - i < n → I i ρ s → SW (forG it g b n i ρ s) N R B C
  | 0, i, ρ, s, _, h, _ => absurd h (Nat.not_lt_zero _)
  | n + 1, i, ρ, s, hi, hn, h => by
    unfold forG
    by_cases e : i = len
    · subst e
      obtain ⟨h1, h2⟩ := stop ρ s h
      rw [h1]
      exact h2
    · have hlt : i < len := Nat.lt_of_le_of_ne hi e
      obtain ⟨d, h1, w, h2, h3⟩ := step i ρ s hlt h
      obtain ⟨ρ1, s1⟩ := w
      simp only [h1, h2]
      cases z : b ρ1 s1 with
      | nx ρ' s' =>
        rw [z] at h3
        exact for_wp len I step stop n (i + 1) ρ' s' hlt (by omega) h3
      | ct ρ' s' =>
        rw [z] at h3
        exact for_wp len I step stop n (i + 1) ρ' s' hlt (by omega) h3
      | bk ρ' s' => rw [z] at h3; exact h3
      | rt d s' => rw [z] at h3; exact h3
      | err e ρ' s' => rw [z] at h3; exact h3.elim
      | bad => rw [z] at h3; exact h3.elim
@[simp] theorem sw_for {fi : FI} {g : FG} {b : GS} : SW (gFor fi g b ρ s) N R B C ↔ EW (fi ρ s) fun it s1 => SW (forG it g b lots 0 ρ s1) N R B C := by simp [gFor]
theorem lots_ok {n : Nat} (h : n ≤ line) (i : Nat) : n - i < lots := by
  unfold lots
  unfold line at h
  omega
/-- a comprehension: I i acc s: acc is made so far, s is the store but for the new list -/
theorem lc_wp {it : IT} {t : CT} {tt : GT} {te : GE} {n : Nat} {ρ : En} {P : Sto → Prop} (len : Nat) (I : Nat → List D → Sto → Prop)
    (step : ∀ i acc s, i < len → lst? s n = some acc → I i acc s → ∃ d, it i s = some (some d) ∧ ∃ ρ1, t.put d ρ s = some ρ1 ∧ EW (tt ρ1 s) fun x s1 => (x = true → EW (te ρ1 s1) fun y s2 => lst? s2 n = some acc ∧ acc.length < line ∧ I (i + 1) (acc ++ [y]) (s2.set n (.lst (acc ++ [y])))) ∧ (x = false → lst? s1 n = some acc ∧ I (i + 1) acc s1))
    (stop : ∀ acc s, lst? s n = some acc → I len acc s → it len s = some none ∧ P s) : ∀ (m i : Nat) (acc : List D) (s : Sto), i ≤ len → len - i < m → lst? s n = some acc → I i acc s → ∃ s', lcG it t tt te n ρ m i s = some s' ∧ P s'
  | 0, i, acc, s, _, h, _, _ => absurd h (Nat.not_lt_zero _)
  | m + 1, i, acc, s, hi, hm, hs, h => by
    unfold lcG
    by_cases e : i = len
    · subst e
      obtain ⟨h1, h2⟩ := stop acc s hs h
      rw [h1]
      exact ⟨s, rfl, h2⟩
    · have hlt : i < len := Nat.lt_of_le_of_ne hi e
      obtain ⟨d, h1, ρ1, h2, h3⟩ := step i acc s hlt hs h
      obtain ⟨x, s1, h4, h5⟩ := h3.ex
      simp only [h1, h2, h4]
      cases x with
      | false =>
        obtain ⟨h6, h7⟩ := h5.2 rfl
        exact lc_wp len I step stop m (i + 1) acc s1 hlt (by omega) h6 h7
      | true =>
        obtain ⟨y, s2, h6, h7, h8, h9⟩ := (h5.1 rfl).ex
        simp only [h6, h7, decide_eq_true h8, if_true]
        have hl : n < s2.length := by
          unfold lst? at h7
          cases z : s2[n]? with
          | none => rw [z] at h7; cases h7
          | some o => exact (List.getElem?_eq_some_iff.mp z).1
        refine lc_wp len I step stop m (i + 1) (acc ++ [y]) _ hlt (by omega) ?_ h9
        unfold lst?
        rw [List.getElem?_set_self hl]
@[simp] theorem ew_lc {fi : FI} {t : CT} {tt : GT} {te : GE} {vs : List Nat} : EW (gLc fi t tt te vs ρ s) Q ↔ EW (fi ρ s) fun it s1 => ∃ s2, lcG it t tt te s1.length (wipeD ρ vs) lots 0 (s1 ++ [.lst []]) = some s2 ∧ Q (.ref s1.length) s2 := by
  unfold gLc
  rw [ew_bind]
  apply iff_of_eq
  congr 1
  funext it s1
  cases h : lcG it t tt te s1.length (wipeD ρ vs) lots 0 (s1 ++ [.lst []]) <;> simp [h]
/-! what is walked -/
/-- what is walked is there -/
def WI (x : D) (s : Sto) (P : IT → Prop) : Prop := (∃ z, x = .str z ∧ P (itTxt z)) ∨ (∃ l, items? s x = some l ∧ P (itSeq x))
@[simp] theorem wi_str {z : Str} {P : IT → Prop} : WI (.str z) s P ↔ P (itTxt z) := by simp [WI, items?]
@[simp] theorem wi_tup {l : List D} {P : IT → Prop} : WI (.tup l) s P ↔ P (itSeq (.tup l)) := by simp [WI, items?]
theorem wi_ref {n : Nat} {l : List D} {P : IT → Prop} (h : seq? s n = some l) : WI (.ref n) s P ↔ P (itSeq (.ref n)) := by
  have e : items? s (.ref n) = some l := h
  simp [WI, e]
@[simp] theorem ew_itA {Q : IT → Sto → Prop} : EW (gItA a ρ s) Q ↔ EW (a ρ s) fun x s1 => WI x s1 fun it => Q it s1 := by
  unfold gItA
  rw [ew_bind]
  apply iff_of_eq
  congr 1
  funext x s1
  cases x with
  | str z => simp
  | tup l => simp [items?]
  | ref n => cases h : items? s1 (.ref n) <;> simp [WI, h]
  | non => simp [WI, items?]
  | bl b => simp [WI, items?]
  | int i => simp [WI, items?]
  | hot b dn => simp [WI, items?]
@[simp] theorem ew_rng1 {Q : IT → Sto → Prop} : EW (gRng1 a ρ s) Q ↔ EW (a ρ s) fun x s1 => ∃ j, x = .int j ∧ rngOk j = true ∧ Q (itRng 0 j.toNat) s1 := by
  unfold gRng1
  rw [ew_bind]
  apply iff_of_eq
  congr 1
  funext x s1
  cases x with
  | int j => cases h : rngOk j <;> simp [h]
  | _ => simp
@[simp] theorem ew_rng2 {Q : IT → Sto → Prop} : EW (gRng2 a b ρ s) Q ↔ EW (a ρ s) fun x s1 => EW (b ρ s1) fun y s2 => ∃ i j, x = .int i ∧ y = .int j ∧ rngOk i = true ∧ rngOk j = true ∧ Q (itRng i (j - i).toNat) s2 := by
  unfold gRng2
  rw [ew_bind]
  apply iff_of_eq
  congr 1
  funext x s1
  rw [ew_bind]
  congr 1
  funext y s2
  cases x with
  | int i =>
    cases y with
    | int j => cases h : rngOk i <;> cases h2 : rngOk j <;> simp [h, h2]
    | _ => simp
  | _ => simp
@[simp] theorem ew_rev {Q : IT → Sto → Prop} : EW (gRev a ρ s) Q ↔ EW (a ρ s) fun x s1 => ∃ n l, x = .ref n ∧ seq? s1 n = some l ∧ Q (itRev n l.length) s1 := by
  unfold gRev
  rw [ew_bind]
  apply iff_of_eq
  congr 1
  funext x s1
  cases x with
  | ref n => cases h : seq? s1 n <;> simp [h]
  | _ => simp
/-! ### operations on known kinds of values -/
variable {x y : Int} {z z' : Str} {p q : Bool} {d e : D} {l l' : List D} {m n : Nat}
@[simp] theorem add_ii : addD (.int x) (.int y) s = .ok (.int (x + y)) s := rfl
@[simp] theorem sub_ii : subD (.int x) (.int y) s = .ok (.int (x - y)) s := rfl
@[simp] theorem iadd_ii : iaddD (.int x) (.int y) s = .ok (.int (x + y)) s := rfl
theorem mul_ok (h : cMul x y = true) : mulD (.int x) (.int y) s = .ok (.int (x * y)) s := by
  show ((if cMul x y = true then Res.ok (D.int (x * y)) s else Res.bad).or (Res.bad.or Res.bad)) = _
  rw [if_pos h]
  rfl
@[simp] theorem mul_r (h1 : -18446744073709551616 < y) (h2 : y < 18446744073709551616) : mulD (.int x) (.int y) s = .ok (.int (x * y)) s := mul_ok (by unfold cMul; simp [h1, h2])
@[simp] theorem mul_l (h1 : -18446744073709551616 < x) (h2 : x < 18446744073709551616) : mulD (.int x) (.int y) s = .ok (.int (x * y)) s := mul_ok (by unfold cMul; simp [h1, h2])
theorem fdiv_ii : fdivD (.int x) (.int y) s = if 0 < y ∧ y.natAbs.log2 < 9000 then .ok (.int (x / y)) s else .bad := by
  show (if (decide (0 < y) && decide (y.natAbs.log2 < 9000)) = true then _ else _) = _
  simp
theorem log2_lt {n k : Nat} (hk : 0 < k) (h : n < 2 ^ k) : n.log2 < k := PySem.Flt.log2_lt_of hk h
@[simp] theorem fdiv_ok (h0 : 0 < y) (h1 : y < 114813069527425452423283320117768198402231770208869520047764273682576626139237031385665948631650626991844596463898746277344711896086305533142593135616665318539129989145312280000688779148240044871428926990063486244781615463646388363947317026040466353970904996558162398808944629605623311649536164221970332681344168908984458505602379484807914058900934776500429002716706625830522008132236281291761267883317206598995396418127021779858404042159853183251540889433902091920554957783589672039160081957216630582755380425583726015528348786419432054508915275783882625175435528800822842770817965453762184851149029376) : fdivD (.int x) (.int y) s = .ok (.int (x / y)) s := by
  rw [fdiv_ii, if_pos]
  refine ⟨h0, Nat.lt_trans (log2_lt (k := 2000) (by decide) ?_) (by decide)⟩
  have e : (2 : Nat) ^ 2000 = 114813069527425452423283320117768198402231770208869520047764273682576626139237031385665948631650626991844596463898746277344711896086305533142593135616665318539129989145312280000688779148240044871428926990063486244781615463646388363947317026040466353970904996558162398808944629605623311649536164221970332681344168908984458505602379484807914058900934776500429002716706625830522008132236281291761267883317206598995396418127021779858404042159853183251540889433902091920554957783589672039160081957216630582755380425583726015528348786419432054508915275783882625175435528800822842770817965453762184851149029376 := by decide +kernel
  rw [e]
  omega
@[simp] theorem mod_ok (h0 : 0 < y) : modD (.int x) (.int y) s = .ok (.int (x % y)) s := by
  show (if decide (0 < y) = true then _ else _) = _
  simp [h0]
theorem pow_ii : powD (.int x) (.int y) s = if cPow x y = true then .ok (.int (x ^ y.toNat)) s else .bad := rfl
theorem shl_ii : shlD (.int x) (.int y) s = if cPow x y = true then .ok (.int (x * 2 ^ y.toNat)) s else .bad := rfl
@[simp] theorem pow_ok (h0 : 0 ≤ y) (h1 : y ≤ 1000000) (h2 : x.natAbs < 18446744073709551616) : powD (.int x) (.int y) s = .ok (.int (x ^ y.toNat)) s := by
  rw [pow_ii, if_pos]
  unfold cPow
  simp [h0, h1, h2]
@[simp] theorem shl_ok (h0 : 0 ≤ y) (h1 : y ≤ 1000000) (h2 : x.natAbs < 18446744073709551616) : shlD (.int x) (.int y) s = .ok (.int (x * 2 ^ y.toNat)) s := by
  rw [shl_ii, if_pos]
  unfold cPow
  simp [h0, h1, h2]
@[simp] theorem shr_ok (h0 : 0 ≤ y) : shrD (.int x) (.int y) s = .ok (.int (x / 2 ^ y.toNat)) s := by
  show (if decide (0 ≤ y) = true then _ else _) = _
  simp [h0]
@[simp] theorem band_ii : bandD (.int x) (.int y) s = .ok (.int (Builtin.bitAnd x y)) s := rfl
@[simp] theorem bor_ii : borD (.int x) (.int y) s = .ok (.int (Builtin.bitOr x y)) s := rfl
@[simp] theorem bxor_ii : bxorD (.int x) (.int y) s = .ok (.int (Builtin.bitXor x y)) s := rfl
@[simp] theorem neg_i : negD (.int x) s = .ok (.int (-x)) s := rfl
@[simp] theorem lt_ii : ltD (.int x) (.int y) s = .ok (.bl (decide (x < y))) s := rfl
@[simp] theorem le_ii : leD (.int x) (.int y) s = .ok (.bl (decide (x ≤ y))) s := rfl
@[simp] theorem gt_ii : gtD (.int x) (.int y) s = .ok (.bl (decide (y < x))) s := rfl
@[simp] theorem ge_ii : geD (.int x) (.int y) s = .ok (.bl (decide (y ≤ x))) s := rfl
@[simp] theorem eq_ii : eqD (.int x) (.int y) s = .ok (.bl (decide (x = y))) s := rfl
@[simp] theorem eq_ss : eqD (.str z) (.str z') s = .ok (.bl (decide (z = z'))) s := rfl
@[simp] theorem eq_bb : eqD (.bl p) (.bl q) s = .ok (.bl (decide (p = q))) s := rfl
@[simp] theorem eq_nn : eqD .non .non s = .ok (.bl true) s := rfl
@[simp] theorem eq_ni : eqD .non (.int x) s = .ok (.bl false) s := rfl
@[simp] theorem eq_in : eqD (.int x) .non s = .ok (.bl false) s := rfl
@[simp] theorem eq_is : eqD (.int x) (.str z) s = .ok (.bl false) s := rfl
@[simp] theorem eq_si : eqD (.str z) (.int x) s = .ok (.bl false) s := rfl
@[simp] theorem eq_sn : eqD (.str z) .non s = .ok (.bl false) s := rfl
@[simp] theorem eq_ns : eqD .non (.str z) s = .ok (.bl false) s := rfl
@[simp] theorem ne_ii : neD (.int x) (.int y) s = .ok (.bl (!decide (x = y))) s := rfl
@[simp] theorem ne_ss : neD (.str z) (.str z') s = .ok (.bl (!decide (z = z'))) s := rfl
@[simp] theorem ne_bb : neD (.bl p) (.bl q) s = .ok (.bl (!decide (p = q))) s := rfl
@[simp] theorem ne_nn : neD .non .non s = .ok (.bl false) s := rfl
@[simp] theorem ne_ni : neD .non (.int x) s = .ok (.bl true) s := rfl
@[simp] theorem ne_in : neD (.int x) .non s = .ok (.bl true) s := rfl
@[simp] theorem isN_ : isND d .non s = .ok (.bl (isNon d)) s := rfl
@[simp] theorem notN_ : notND d .non s = .ok (.bl (!isNon d)) s := rfl
@[simp] theorem is_bb : isND (.bl p) (.bl q) s = .ok (.bl (decide (p = q))) s := rfl
@[simp] theorem not_bb : notND (.bl p) (.bl q) s = .ok (.bl (!decide (p = q))) s := rfl
@[simp] theorem isNon_non : isNon .non = true := rfl
@[simp] theorem isNon_int : isNon (.int x) = false := rfl
@[simp] theorem isNon_str : isNon (.str z) = false := rfl
@[simp] theorem isNon_bl : isNon (.bl p) = false := rfl
@[simp] theorem isNon_tup : isNon (.tup l) = false := rfl
@[simp] theorem isNon_ref : isNon (.ref n) = false := rfl
@[simp] theorem max_ii : maxD [.int x, .int y] s = .ok (.int (if y > x then y else x)) s := rfl
@[simp] theorem min_ii : minD [.int x, .int y] s = .ok (.int (if y < x then y else x)) s := rfl
@[simp] theorem abs_i : absD [.int x] s = .ok (.int (if x < 0 then -x else x)) s := rfl
@[simp] theorem tru_bl : tru? s (.bl p) = some p := rfl
@[simp] theorem tru_non : tru? s .non = some false := rfl
@[simp] theorem tru_int : tru? s (.int x) = some (x != 0) := rfl
@[simp] theorem tru_tup : tru? s (.tup l) = some (!l.isEmpty) := rfl
theorem tru_ref (h : seq? s n = some l) : tru? s (.ref n) = some (!l.isEmpty) := by
  show (match seq? s n with
    | some l => some (!l.isEmpty)
    | none => _) = _
  rw [h]
@[simp] theorem ty_non : tyOf s .non = some .non := rfl
@[simp] theorem ty_bl : tyOf s (.bl p) = some .bool := rfl
@[simp] theorem ty_int : tyOf s (.int x) = some .int := rfl
@[simp] theorem ty_str : tyOf s (.str z) = some .str := rfl
@[simp] theorem ty_tup : tyOf s (.tup l) = some .tuple := rfl
theorem ty_lst (h : lst? s n = some l) : tyOf s (.ref n) = some .list := by
  unfold lst? at h
  show (match s[n]? with
    | some (.lst _) => some Ty.list
    | some (.scr _) => some Ty.list
    | some (.dk _) => some Ty.dict
    | _ => none) = _
  cases e : s[n]? with
  | none => rw [e] at h; cases h
  | some o => cases o <;> rw [e] at h <;> first | rfl | cases h
@[simp] theorem items_tup : items? s (.tup l) = some l := rfl
@[simp] theorem items_ref : items? s (.ref n) = seq? s n := rfl
theorem seq_of_lst (h : lst? s n = some l) : seq? s n = some l := by
  unfold lst? at h
  unfold seq?
  cases e : s[n]? with
  | none => rw [e] at h; cases h
  | some o => cases o <;> rw [e] at h <;> first | exact h | cases h
theorem ix_seq_ {x : D} {i : Int} (h : items? s x = some l) (h2 : atI l i = some d) : ixD x (.int i) s = .ok d s := by
  unfold ixD op2or ixSeq
  simp only [h, h2]
  rfl
@[simp] theorem ix_tup_ {i : Int} (h2 : atI l i = some d) : ixD (.tup l) (.int i) s = .ok d s := ix_seq_ rfl h2
theorem len_seq_ {x : D} (h : items? s x = some l) : lenD [x] s = .ok (.int (l.length : Int)) s := by
  unfold lenD opCor lenSeq
  simp only [h]
  rfl
@[simp] theorem len_tup_ : lenD [.tup l] s = .ok (.int (l.length : Int)) s := rfl
theorem add_lst_ {k : Nat} {l l' : List D} (h1 : seq? s m = some l) (h2 : seq? s k = some l') (h : l.length + l'.length ≤ line) : addD (.ref m) (.ref k) s = .ok (.ref s.length) (s ++ [.lst (l ++ l')]) := by
  unfold addD op2or addStr addLst iOp0
  simp only [h1, h2, decide_eq_true h]
  rfl
theorem add_str_ (h : z.length + z'.length ≤ line) : addD (.str z) (.str z') s = .ok (.str (z ++ z')) s := by
  unfold addD op2or addStr iOp0
  simp only [decide_eq_true h]
  rfl
theorem append_ (h : lst? s n = some l) (h2 : l.length < line) : appendD (.ref n) [d] s = .ok .non (s.set n (.lst (l ++ [d]))) := by
  unfold appendD
  simp only [h, decide_eq_true h2, if_true]
theorem isL_ (h : seq? s n = some l) : isL s (.ref n) = true := by
  show (seq? s n).isSome = true
  rw [h]
  rfl
@[simp] theorem sl_tup_ {lo hi : Option Int} : slD (.tup l) lo hi s = .ok (.tup (cutL l lo hi)) s := rfl
theorem sl_ref_ {lo hi : Option Int} (h : seq? s n = some l) : slD (.ref n) lo hi s = .ok (.ref s.length) (s ++ [.lst (cutL l lo hi)]) := by
  unfold slD
  simp only [h]
  rfl
/-! the store -/
@[simp] theorem lst_new {ob : O} : lst? (s ++ [ob]) s.length = match ob with
    | .lst l => some l
    | _ => none := by
  unfold lst?
  rw [List.getElem?_append_right (Nat.le_refl _), Nat.sub_self]
  cases ob <;> rfl
theorem get_app {o : O} {t : Sto} (h : s[n]? = some o) : (s ++ t)[n]? = some o := by
  rw [List.getElem?_append_left (List.getElem?_eq_some_iff.mp h).1]
  exact h
theorem lst_app {t : Sto} (h : lst? s n = some l) : lst? (s ++ t) n = some l := by
  unfold lst? at h ⊢
  cases e : s[n]? with
  | none => rw [e] at h; cases h
  | some o => rw [get_app e]; rw [e] at h; exact h
theorem seq_app {t : Sto} (h : seq? s n = some l) : seq? (s ++ t) n = some l := by
  unfold seq? at h ⊢
  cases e : s[n]? with
  | none => rw [e] at h; cases h
  | some o => rw [get_app e]; rw [e] at h; exact h
theorem lst_lt (h : lst? s n = some l) : n < s.length := by
  unfold lst? at h
  cases e : s[n]? with
  | none => rw [e] at h; cases h
  | some o => exact (List.getElem?_eq_some_iff.mp e).1
@[simp] theorem ty_new : tyOf (s ++ [.lst l]) (.ref s.length) = some .list := ty_lst (l := l) (by simp)
@[simp] theorem wi_new {l : List D} {P : IT → Prop} : WI (.ref s.length) (s ++ [.lst l]) P ↔ P (itSeq (.ref s.length)) := wi_ref (l := l) (seq_of_lst (by simp))
@[simp] theorem seq_new : seq? (s ++ [.lst l]) s.length = some l := seq_of_lst (l := l) (by simp)
/-! ### more: texts of numbers, rows of whole numbers, loops over a list -/
theorem Ext.seq {t : Sto} (h : seq? s n = some l) : seq? (s ++ t) n = some l := seq_app h
/-- whole numbers all -/
def AllI (l : List D) : Prop := ∀ d ∈ l, ∃ c : Int, d = .int c
theorem AllI.of (ns : List Int) : AllI (ns.map D.int) := fun d h => by
  obtain ⟨c, _, rfl⟩ := List.mem_map.mp h
  exact ⟨c, rfl⟩
theorem AllI.cut (h : AllI l) (lo hi : Option Int) : AllI (cutL l lo hi) := fun d hd => h d (List.mem_of_mem_drop (List.mem_of_mem_take hd))
theorem AllI.app (h : AllI l) (h' : AllI l') : AllI (l ++ l') := fun d hd => (List.mem_append.mp hd).elim (h d) (h' d)
theorem AllI.nil : AllI [] := fun _ h => nomatch h
theorem AllI.cons (h : AllI l) : AllI (.int x :: l) := fun d hd => (List.mem_cons.mp hd).elim (fun e => ⟨x, e⟩) (h d)
theorem cut_len {β : Type} (l : List β) (lo hi : Option Int) : (cutL l lo hi).length ≤ l.length := by
  unfold cutL
  rw [List.length_take, List.length_drop]
  omega
/-- a loop over a list that stays -/
theorem for_list {j : Nat} {b : GS} (I : Nat → En → Sto → Prop) (hl : l.length ≤ line) (hI : ∀ i ρ s, I i ρ s → seq? s n = some l)
    (step : ∀ i ρ s d, l[i]? = some d → I i ρ s → SW (b (ρ.set j (some d)) s) (I (i + 1)) R N (I (i + 1)))
    (stop : ∀ ρ s, I l.length ρ s → N ρ s) (h : I 0 ρ s) : SW (forG (itSeq (.ref n)) (gName_ j) b lots 0 ρ s) N R B C := by
  refine for_wp l.length I ?_ ?_ lots 0 ρ s (Nat.zero_le _) (lots_ok hl _) h
  · intro i ρ s hi h
    have hd : l[i]? = some l[i] := List.getElem?_eq_getElem hi
    refine ⟨l[i], ?_, _, rfl, step i ρ s l[i] hd h⟩
    unfold itSeq
    rw [items_ref, hI i ρ s h]
    exact congrArg some hd
  · intro ρ s h
    refine ⟨?_, stop ρ s h⟩
    unfold itSeq
    rw [items_ref, hI _ ρ s h]
    exact congrArg some (List.getElem?_eq_none (Nat.le_refl _))
/-- a loop over range -/
theorem for_rng {j k : Nat} {a : Int} {b : GS} (I : Nat → En → Sto → Prop) (hl : k ≤ line)
    (step : ∀ i ρ s, i < k → I i ρ s → SW (b (ρ.set j (some (.int (a + i)))) s) (I (i + 1)) R N (I (i + 1)))
    (stop : ∀ ρ s, I k ρ s → N ρ s) (h : I 0 ρ s) : SW (forG (itRng a k) (gName_ j) b lots 0 ρ s) N R B C := by
  refine for_wp k I ?_ ?_ lots 0 ρ s (Nat.zero_le _) (lots_ok hl _) h
  · intro i ρ s hi h
    refine ⟨.int (a + i), ?_, _, rfl, step i ρ s hi h⟩
    unfold itRng
    simp [hi]
  · intro ρ s h
    refine ⟨?_, stop ρ s h⟩
    unfold itRng
    simp
end
end PD

/-! Pdn: items by number, powers of two, a script's cells: what many laws share. -/
namespace PD
open PySem L2
section
variable {β : Type} {a b c e f g : β} {l : List β} {i : Int}
theorem atI_of (h0 : 0 ≤ i) (h1 : i < l.length) : atI l i = l[i.toNat]? := by
  unfold atI ixN
  rw [if_pos h0, if_pos h1]
  rfl
theorem atI_nat {k : Nat} (h1 : k < l.length) : atI l (k : Int) = l[k]? := by
  rw [atI_of (by omega) (by omega)]
  rfl
theorem atI_mem (h0 : 0 ≤ i) (h1 : i < l.length) : ∃ d, d ∈ l ∧ atI l i = some d := by
  rw [atI_of h0 h1]
  have h : i.toNat < l.length := by omega
  exact ⟨l[i.toNat], List.getElem_mem h, List.getElem?_eq_getElem h⟩
@[simp] theorem atI_0 : atI (a :: l) 0 = some a := by
  rw [atI_of (by omega) (by simp only [List.length_cons]; omega)]
  rfl
@[simp] theorem atI_1 : atI (a :: b :: l) 1 = some b := by
  rw [atI_of (by omega) (by simp only [List.length_cons]; omega)]
  rfl
@[simp] theorem atI_2 : atI (a :: b :: c :: l) 2 = some c := by
  rw [atI_of (by omega) (by simp only [List.length_cons]; omega)]
  rfl
@[simp] theorem atI_3 : atI (a :: b :: c :: e :: l) 3 = some e := by
  rw [atI_of (by omega) (by simp only [List.length_cons]; omega)]
  rfl
@[simp] theorem atI_4 : atI (a :: b :: c :: e :: f :: l) 4 = some f := by
  rw [atI_of (by omega) (by simp only [List.length_cons]; omega)]
  rfl
@[simp] theorem atI_5 : atI (a :: b :: c :: e :: f :: g :: l) 5 = some g := by
  rw [atI_of (by omega) (by simp only [List.length_cons]; omega)]
  rfl
@[simp] theorem atI_m1 : atI (l ++ [a]) (-1) = some a := by
  unfold atI ixN
  have h : (-((l ++ [a]).length : Int)) ≤ -1 := by simp only [List.length_append, List.length_singleton]; omega
  rw [if_neg (by omega), if_pos h]
  show (l ++ [a])[(-1 + ((l ++ [a]).length : Int)).toNat]? = some a
  have e : (-1 + ((l ++ [a]).length : Int)).toNat = l.length := by simp only [List.length_append, List.length_singleton]; omega
  rw [e]
  simp
@[simp] theorem atI_m1_1 : atI [a] (-1) = some a := by rfl
@[simp] theorem atI_m1_2 : atI [a, b] (-1) = some b := by rfl
@[simp] theorem atI_m1_3 : atI [a, b, c] (-1) = some c := by rfl
end
section
variable {s : Sto} {Q : D → Sto → Prop} {l : List D} {n : Nat} {i x y : Int} {d : D} {b : Nat}
@[simp] theorem ew_ix_tup : EW (ixD (.tup l) (.int i) s) Q ↔ WO (atI l i) fun d => Q d s := by
  cases h : atI l i with
  | some d => rw [ix_tup_ h]; exact Iff.rfl
  | none =>
    unfold ixD op2or ixSeq
    simp only [items_tup, h]
    exact Iff.rfl
theorem ew_ix_ref (h : seq? s n = some l) : EW (ixD (.ref n) (.int i) s) Q ↔ WO (atI l i) fun d => Q d s := by
  cases h2 : atI l i with
  | some d => rw [ix_seq_ (l := l) (by rw [items_ref]; exact h) h2]; exact Iff.rfl
  | none =>
    unfold ixD op2or ixSeq
    simp only [items_ref, h, h2]
    constructor
    · intro q
      exfalso
      unfold ixTxt ixDk at q
      simp at q
      have : dk? s n = none := by
        unfold seq? at h
        unfold dk?
        cases e : s[n]? with
        | none => rfl
        | some o => cases o <;> rw [e] at h <;> first | rfl | cases h
      simp [this, key?] at q
      exact q
    · exact fun q => q.elim
theorem ew_len_ref (h : seq? s n = some l) : EW (lenD [.ref n] s) Q ↔ Q (.int l.length) s := by
  rw [len_seq_ (l := l) (by rw [items_ref]; exact h)]
  exact Iff.rfl
/-! powers of two -/
theorem shl1_ (h : b ≤ 1000000) : shlD (.int 1) (.int (b : Int)) s = .ok (.int (2 ^ b)) s := by
  rw [shl_ok (by omega) (by omega) (by decide)]
  simp
/-! a script's cells -/
theorem EW.eq {β : Type} {r : Res β} {d : β} {s : Sto} (h : EW r fun d' s' => d' = d ∧ s' = s) : r = .ok d s := by
  obtain ⟨d, s', e, rfl, rfl⟩ := h.ex
  exact e
theorem ty_seq (h : seq? s n = some l) : tyOf s (.ref n) = some .list := by
  unfold seq? at h
  show (match s[n]? with
    | some (.lst _) => some Ty.list
    | some (.scr _) => some Ty.list
    | some (.dk _) => some Ty.dict
    | _ => none) = _
  cases e : s[n]? with
  | none => rw [e] at h; cases h
  | some o => cases o <;> rw [e] at h <;> first | rfl | cases h
theorem seq_lt (h : seq? s n = some l) : n < s.length := by
  unfold seq? at h
  cases e : s[n]? with
  | none => rw [e] at h; cases h
  | some o => exact (List.getElem?_eq_some_iff.mp e).1
theorem lst_set_self {l' : List D} (h : n < s.length) : lst? (s.set n (.lst l')) n = some l' := by
  unfold lst?
  rw [List.getElem?_set_self h]
end
section
variable {n : Nat} {l : List D} {ρ : En} {s : Sto} {N B C : En → Sto → Prop} {R : D → Sto → Prop}
end
end PD

/-! Pdp: bits of numbers from nought; stretches. -/
namespace PD
open PySem L2
theorem nat_xor_and : ∀ (a b : Nat), (a ^^^ b) + (a &&& b) = a ||| b := by
  intro a
  induction a using Nat.strongRecOn with
  | _ a ih =>
    intro b
    by_cases h : a = 0
    · subst h
      simp
    · have h1 := ih (a / 2) (by omega) (b / 2)
      have x1 : (a ^^^ b) / 2 = a / 2 ^^^ b / 2 := by simpa using Nat.xor_div_two_pow (a := a) (b := b) (n := 1)
      have x2 : (a &&& b) / 2 = a / 2 &&& b / 2 := by simpa using Nat.and_div_two_pow (a := a) (b := b) (n := 1)
      have x3 : (a ||| b) / 2 = a / 2 ||| b / 2 := by simpa using Nat.or_div_two_pow (a := a) (b := b) (n := 1)
      have y1 : (a ^^^ b) % 2 = a % 2 ^^^ b % 2 := by simpa using Nat.xor_mod_two_pow (a := a) (b := b) (n := 1)
      have y2 : (a &&& b) % 2 = a % 2 &&& b % 2 := by simpa using Nat.and_mod_two_pow (a := a) (b := b) (n := 1)
      have y3 : (a ||| b) % 2 = a % 2 ||| b % 2 := by simpa using Nat.or_mod_two_pow (a := a) (b := b) (n := 1)
      have z : (a % 2 ^^^ b % 2) + (a % 2 &&& b % 2) = a % 2 ||| b % 2 := by
        have ha : a % 2 = 0 ∨ a % 2 = 1 := by omega
        have hb : b % 2 = 0 ∨ b % 2 = 1 := by omega
        rcases ha with ha | ha <;> rcases hb with hb | hb <;> rw [ha, hb] <;> rfl
      omega
theorem band_n (a b : Nat) : Builtin.bitAnd (a : Int) (b : Int) = ((a &&& b : Nat) : Int) := by
  unfold Builtin.bitAnd
  have h1 : decide (0 ≤ (a : Int)) = true := decide_eq_true (Int.natCast_nonneg a)
  have h2 : decide (0 ≤ (b : Int)) = true := decide_eq_true (Int.natCast_nonneg b)
  simp only [h1, h2, Int.toNat_natCast]
theorem bor_n (a b : Nat) : Builtin.bitOr (a : Int) (b : Int) = ((a ||| b : Nat) : Int) := by
  unfold Builtin.bitOr Builtin.bitAnd
  have e (x : Int) : Builtin.bitNot x = -x - 1 := by
    unfold Builtin.bitNot
    omega
  have h1 : decide (0 ≤ -(a : Int) - 1) = false := decide_eq_false (by omega)
  have h2 : decide (0 ≤ -(b : Int) - 1) = false := decide_eq_false (by omega)
  simp only [e, h1, h2]
  have e1 : (-(-(a : Int) - 1) - 1).toNat = a := by omega
  have e2 : (-(-(b : Int) - 1) - 1).toNat = b := by omega
  rw [e1, e2]
  omega
theorem bxor_n (a b : Nat) : Builtin.bitXor (a : Int) (b : Int) = ((a ^^^ b : Nat) : Int) := by
  unfold Builtin.bitXor
  rw [bor_n, band_n]
  have := nat_xor_and a b
  omega
/-! pairs alike -/
section
variable {a b c d : Int} {s : Sto}
@[simp] theorem eq_tt2 : eqD (.tup [.int a, .int b]) (.tup [.int c, .int d]) s = .ok (.bl (decide (a = c ∧ b = d))) s := by
  simp [eqD, op2or, eqS, eqS?, eqG, eqG?, pyOf, optAll, SeqAt.shaped, PyData.canLay0, PyData.canLayAll0, PyData.depth, PyData.depthAll, PyData.eqv, PyData.eqvAll, Res.or]
  rfl
@[simp] theorem ne_tt2 : neD (.tup [.int a, .int b]) (.tup [.int c, .int d]) s = .ok (.bl (!decide (a = c ∧ b = d))) s := by
  simp [neD, op2or, eqS, eqS?, eqG, eqG?, pyOf, optAll, SeqAt.shaped, PyData.canLay0, PyData.canLayAll0, PyData.depth, PyData.depthAll, PyData.eqv, PyData.eqvAll, Res.or]
  rfl
end
/-! stretches -/
def St (low size : Int) : Prop := ∃ b k : Nat, b ≤ 30 ∧ k < 2 ^ (30 - b) ∧ size = ((2 ^ b : Nat) : Int) ∧ low = ((k * 2 ^ b : Nat) : Int)
theorem pw (a b : Nat) : 2 ^ a * 2 ^ b = 2 ^ (a + b) := (Nat.pow_add 2 a b).symm
theorem pw30 {b : Nat} (h : b ≤ 30) : 2 ^ (30 - b) * 2 ^ b = 1073741824 := by
  rw [pw, Nat.sub_add_cancel h]
theorem St.next {b k : Nat} (h1 : b ≤ 30) (h : k * 2 ^ b + 2 * 2 ^ b ≤ 1073741824) : St ((k * 2 ^ b + 2 ^ b : Nat) : Int) ((2 ^ b : Nat) : Int) := by
  refine ⟨b, k + 1, h1, ?_, rfl, ?_⟩
  · rw [← pw30 h1, ← Nat.add_mul] at h
    have := Nat.le_of_mul_le_mul_right h (Nat.pow_pos (by decide))
    omega
  · rw [Nat.add_mul, Nat.one_mul]
end PD

/-! Pdq: texts, objects of own classes, empty lists. -/
namespace PD
open PySem L2
section
variable {s t : Sto} {Q : D → Sto → Prop} {l l' : List D} {n m : Nat} {i : Int} {d : D} {z z' : Str} {c : Str} {fs : List (Str × D)} {o : O}
theorem str_len_app : (z ++ z').length = z.length + z'.length := Array.size_append ..
theorem ixD_str (h : z.length ≤ line) : ixD (.str z) (.int i) s = match atI z.cps.toList i with
    | some c => .ok (.str ⟨#[c]⟩) s
    | none => .bad := by
  unfold ixD op2or ixSeq ixTxt
  simp only [items?, decide_eq_true h, if_true]
  cases atI z.cps.toList i <;> rfl
/-- one sign of a text -/
theorem ix_str (h : z.length ≤ line) (h0 : 0 ≤ i) (h1 : i < z.length) : ∃ x, x ∈ z.cps.toList ∧ ixD (.str z) (.int i) s = .ok (.str ⟨#[x]⟩) s := by
  obtain ⟨x, hx, e⟩ := atI_mem (l := z.cps.toList) h0 (by rw [Array.length_toList]; exact h1)
  refine ⟨x, hx, ?_⟩
  rw [ixD_str h, e]
@[simp] theorem one_len {x : Nat} : (⟨#[x]⟩ : Str).length = 1 := rfl
theorem ins_app {x : D} (h : ins? s x = some (c, fs)) : ins? (s ++ t) x = some (c, fs) := by
  cases x with
  | ref n =>
    unfold ins? at h ⊢
    dsimp only at h ⊢
    cases e : s[n]? with
    | none => rw [e] at h; cases h
    | some o => rw [get_app e]; rw [e] at h; exact h
  | _ => cases h
end
/-! ### the store's end -/
section
variable {s t : Sto} {l : List D} {n : Nat} {o o' : O}
theorem seq_at (i : Nat) : seq? (s ++ t) (s.length + i) = seq? t i := by
  unfold seq?
  rw [List.getElem?_append_right (Nat.le_add_right _ _), Nat.add_sub_cancel_left]
theorem lst_at (i : Nat) : lst? (s ++ t) (s.length + i) = lst? t i := by
  unfold lst?
  rw [List.getElem?_append_right (Nat.le_add_right _ _), Nat.add_sub_cancel_left]
theorem set_at (i : Nat) : (s ++ t).set (s.length + i) o = s ++ t.set i o := by
  rw [List.set_append_right _ _ (Nat.le_add_right _ _), Nat.add_sub_cancel_left]
@[simp] theorem seq_at0 : seq? (s ++ t) s.length = seq? t 0 := seq_at 0
@[simp] theorem seq_at1 : seq? (s ++ t) (s.length + 1) = seq? t 1 := seq_at 1
@[simp] theorem seq_at2 : seq? (s ++ t) (s.length + 1 + 1) = seq? t 2 := seq_at 2
@[simp] theorem seq_at2' : seq? (s ++ t) (s.length + 2) = seq? t 2 := seq_at 2
@[simp] theorem seq_at3 : seq? (s ++ t) (s.length + 1 + 1 + 1) = seq? t 3 := seq_at 3
@[simp] theorem seq_at3' : seq? (s ++ t) (s.length + 3) = seq? t 3 := seq_at 3
@[simp] theorem seq_at4 : seq? (s ++ t) (s.length + 1 + 1 + 1 + 1) = seq? t 4 := seq_at 4
@[simp] theorem lst_at0 : lst? (s ++ t) s.length = lst? t 0 := lst_at 0
@[simp] theorem lst_at1 : lst? (s ++ t) (s.length + 1) = lst? t 1 := lst_at 1
@[simp] theorem lst_at2 : lst? (s ++ t) (s.length + 1 + 1) = lst? t 2 := lst_at 2
@[simp] theorem lst_at2' : lst? (s ++ t) (s.length + 2) = lst? t 2 := lst_at 2
@[simp] theorem lst_at3 : lst? (s ++ t) (s.length + 1 + 1 + 1) = lst? t 3 := lst_at 3
@[simp] theorem lst_at3' : lst? (s ++ t) (s.length + 3) = lst? t 3 := lst_at 3
@[simp] theorem set_at0 : (s ++ t).set s.length o = s ++ t.set 0 o := set_at 0
@[simp] theorem set_at1 : (s ++ t).set (s.length + 1) o = s ++ t.set 1 o := set_at 1
@[simp] theorem set_at2 : (s ++ t).set (s.length + 1 + 1) o = s ++ t.set 2 o := set_at 2
@[simp] theorem set_at2' : (s ++ t).set (s.length + 2) o = s ++ t.set 2 o := set_at 2
@[simp] theorem set_at3 : (s ++ t).set (s.length + 1 + 1 + 1) o = s ++ t.set 3 o := set_at 3
@[simp] theorem set_at3' : (s ++ t).set (s.length + 3) o = s ++ t.set 3 o := set_at 3
@[simp] theorem seq_c0 : seq? (.lst l :: t) 0 = some l := rfl
@[simp] theorem seq_c0' : seq? (.scr l :: t) 0 = some l := rfl
@[simp] theorem seq_cs : seq? (o :: t) (n + 1) = seq? t n := rfl
@[simp] theorem lst_c0 : lst? (.lst l :: t) 0 = some l := rfl
@[simp] theorem lst_cs : lst? (o :: t) (n + 1) = lst? t n := rfl
@[simp] theorem ty_is_self {T : Ty} : T.is T = true := by cases T <;> rfl
end
/-! ### a body cut behind its first statements -/
section
variable {ρ : En} {s : Sto} {N B C : En → Sto → Prop} {R : D → Sto → Prop} {a b c d e f g h r : GS}
end
end PD

/-! Pdr: equality of data without objects: numbers, texts, None, tuples of these. -/
namespace PD
open PySem L2
def txtOk (z : Str) : Bool := PyData.strOk z
mutual
/-- as data -/
def toP : D → PyData
  | .non => .none
  | .bl b => .bool b
  | .int i => .int i
  | .str z => .str z
  | .tup l => .tuple (toPs l)
  | .ref _ => .none
  | .hot _ _ => .none
def toPs : List D → List PyData
  | [] => []
  | d :: r => toP d :: toPs r
end
mutual
/-- no object in it, texts that can be written, at most n tuples deep -/
def okT : Nat → D → Bool
  | _, .non => true
  | _, .bl _ => true
  | _, .int _ => true
  | _, .str z => txtOk z
  | 0, .tup _ => false
  | n + 1, .tup l => okTs n l
  | _, .ref _ => false
  | _, .hot _ _ => false
def okTs : Nat → List D → Bool
  | _, [] => true
  | n, d :: r => okT n d && okTs n r
end
theorem pyOf_okT {s : Sto} : ∀ (n : Nat), (∀ (d : D), okT n d = true → pyOf s n d = some (toP d) ∧ PyData.canLay0 (toP d) = true ∧ PyData.depth (toP d) ≤ n) ∧ ∀ (l : List D), okTs n l = true → optAll (l.map (pyOf s n)) = some (toPs l) ∧ PyData.canLayAll0 (toPs l) = true ∧ PyData.depthAll (toPs l) ≤ n := by
  have key : ∀ n : Nat, (∀ (d : D), okT n d = true → pyOf s n d = some (toP d) ∧ PyData.canLay0 (toP d) = true ∧ PyData.depth (toP d) ≤ n) → ∀ (l : List D), okTs n l = true → optAll (l.map (pyOf s n)) = some (toPs l) ∧ PyData.canLayAll0 (toPs l) = true ∧ PyData.depthAll (toPs l) ≤ n := by
    intro n h1 l
    induction l with
    | nil =>
      intro _
      refine ⟨rfl, ?_, Nat.zero_le _⟩
      rw [toPs, PyData.canLayAll0]
    | cons d r ih =>
      intro h
      rw [okTs] at h
      obtain ⟨h2, h3⟩ := Bool.and_eq_true_iff.mp h
      obtain ⟨a1, a2, a3⟩ := h1 d h2
      obtain ⟨b1, b2, b3⟩ := ih h3
      refine ⟨?_, ?_, ?_⟩
      · show optAll (pyOf s n d :: r.map (pyOf s n)) = _
        rw [a1]
        show (optAll (r.map (pyOf s n))).map (toP d :: ·) = _
        rw [b1]
        rfl
      · rw [toPs, PyData.canLayAll0, a2, b2]
        rfl
      · rw [toPs, PyData.depthAll]
        exact Nat.max_le.mpr ⟨a3, b3⟩
  intro n
  induction n with
  | zero =>
    have h0 : ∀ (d : D), okT 0 d = true → pyOf s 0 d = some (toP d) ∧ PyData.canLay0 (toP d) = true ∧ PyData.depth (toP d) ≤ 0 := by
      intro d h
      cases d with
      | tup l => cases h
      | ref m => cases h
      | hot a dn => cases h
      | str z => exact ⟨rfl, h, Nat.le_refl _⟩
      | _ => exact ⟨rfl, rfl, Nat.le_refl _⟩
    exact ⟨h0, key 0 h0⟩
  | succ n ih =>
    have h0 : ∀ (d : D), okT (n + 1) d = true → pyOf s (n + 1) d = some (toP d) ∧ PyData.canLay0 (toP d) = true ∧ PyData.depth (toP d) ≤ n + 1 := by
      intro d h
      cases d with
      | tup l =>
        obtain ⟨a1, a2, a3⟩ := ih.2 l (by rw [okT] at h; exact h)
        refine ⟨?_, ?_, ?_⟩
        · show (optAll (l.map (pyOf s n))).map PyData.tuple = _
          rw [a1]
          rfl
        · rw [toP, PyData.canLay0]
          exact a2
        · rw [toP, PyData.depth]
          omega
      | ref m => cases h
      | hot a dn => cases h
      | str z => exact ⟨rfl, h, Nat.zero_le _⟩
      | _ => exact ⟨rfl, rfl, Nat.zero_le _⟩
    exact ⟨h0, key (n + 1) h0⟩
def eqB (x y : D) : Bool := PyData.eqv (toP x) (toP y)
theorem eqD_ok {x y : D} {s : Sto} (h1 : okT 60 x = true) (h2 : okT 60 y = true) : eqD x y s = .ok (.bl (eqB x y)) s := by
  obtain ⟨a1, a2, a3⟩ := (pyOf_okT (s := s) 60).1 x h1
  obtain ⟨b1, b2, b3⟩ := (pyOf_okT (s := s) 60).1 y h2
  have e : eqG? s x y = some (eqB x y) := by
    unfold eqG?
    simp only [a1, b1]
    rw [if_pos]
    · rfl
    · unfold SeqAt.shaped
      rw [a2, b2, decide_eq_true (show (toP x).depth ≤ 64 by omega), decide_eq_true (show (toP y).depth ≤ 64 by omega)]
      rfl
  unfold eqD op2or
  cases h : eqS? x y with
  | some b =>
    have : b = eqB x y := by
      cases x <;> cases y <;> first
        | (cases h; simp [eqB, toP, PyData.eqv])
        | cases h
      all_goals exact Bool.eq_iff_iff.mpr (by simp)
    subst this
    unfold eqS
    simp only [h]
    rfl
  | none =>
    unfold eqS eqG
    simp only [h, e]
    rfl
mutual
/-- no truth in it -/
def nbT : D → Bool
  | .bl _ => false
  | .ref _ => false
  | .hot _ _ => false
  | .tup l => nbTs l
  | _ => true
def nbTs : List D → Bool
  | [] => true
  | d :: r => nbT d && nbTs r
end
mutual
theorem eqB_iff : ∀ (x y : D), nbT x = true → nbT y = true → (PyData.eqv (toP x) (toP y) = true ↔ x = y)
  | .non, y, _, h => by cases y <;> simp_all [toP, PyData.eqv, nbT]
  | .bl _, y, h, _ => by cases h
  | .int i, y, _, h => by cases y <;> simp_all [toP, PyData.eqv, nbT]
  | .str z, y, _, h => by cases y <;> simp_all [toP, PyData.eqv, nbT]
  | .ref _, y, h, _ => by cases h
  | .hot _ _, y, h, _ => by cases h
  | .tup l, .tup l', h, h' => by
    rw [nbT] at h h'
    rw [toP, toP, PyData.eqv, eqBs_iff l l' h h']
    simp
  | .tup l, .non, _, _ => by simp [toP, PyData.eqv]
  | .tup l, .bl _, _, _ => by simp [toP, PyData.eqv]
  | .tup l, .int _, _, _ => by simp [toP, PyData.eqv]
  | .tup l, .str _, _, _ => by simp [toP, PyData.eqv]
  | .tup l, .ref _, _, h => by cases h
  | .tup l, .hot _ _, _, h => by cases h
theorem eqBs_iff : ∀ (l l' : List D), nbTs l = true → nbTs l' = true → (PyData.eqvAll (toPs l) (toPs l') = true ↔ l = l')
  | [], [], _, _ => by simp [toPs, PyData.eqvAll]
  | [], _ :: _, _, _ => by simp [toPs, PyData.eqvAll]
  | _ :: _, [], _, _ => by simp [toPs, PyData.eqvAll]
  | d :: r, d' :: r', h, h' => by
    rw [nbTs] at h h'
    obtain ⟨h1, h2⟩ := Bool.and_eq_true_iff.mp h
    obtain ⟨h3, h4⟩ := Bool.and_eq_true_iff.mp h'
    rw [toPs, toPs, PyData.eqvAll, Bool.and_eq_true_iff, eqB_iff d d' h1 h3, eqBs_iff r r' h2 h4]
    simp
end
/-! texts that can be written -/
theorem txtOk_app {z z' : Str} (h : txtOk z = true) (h' : txtOk z' = true) : txtOk (z ++ z') = true := by
  unfold txtOk PyData.strOk at *
  show (z.cps ++ z'.cps).all _ = true
  rw [Array.all_append, h, h']
  rfl
theorem txtOk_cut {z : Str} (h : txtOk z = true) (lo hi : Option Int) : txtOk (cutS z lo hi) = true := by
  unfold txtOk PyData.strOk at *
  unfold cutS
  rw [List.all_toArray]
  have h' : z.cps.toList.all (fun c => decide (c < 0x110000)) = true := by
    rw [Array.all_toList]
    exact h
  rw [List.all_eq_true] at h' ⊢
  exact fun x hx => h' x (List.mem_of_mem_drop (List.mem_of_mem_take hx))
theorem cut_le (z : Str) (lo hi : Option Int) : (cutS z lo hi).length ≤ z.length := by
  unfold cutS
  show ((_ : List Nat).toArray).size ≤ z.cps.size
  rw [List.size_toArray, List.length_take, List.length_drop, Array.length_toList]
  omega
theorem sl_str_ {z : Str} {lo hi : Option Int} {s : Sto} (h : z.length ≤ line) : slD (.str z) lo hi s = .ok (.str (cutS z lo hi)) s := by
  unfold slD
  simp only [decide_eq_true h, if_true]
end PD

/-! Pds: comprehensions whose items are told without a change of the store. -/
namespace PD
open PySem L2
section
variable {s : Sto} {ρ : En} {it : IT} {t : CT} {tt : GT} {te : GE} {items : List D} {f : D → D} {p : D → Bool}
end
/-! letters -/
theorem abc_len : ("abcdefghijklmnopqrstuvwxyz" : Str).length = 26 := by decide +kernel
def abcS (i : Int) : Str := match atI ("abcdefghijklmnopqrstuvwxyz" : Str).cps.toList (i % 26) with
  | some c => ⟨#[c]⟩
  | none => ⟨#[]⟩
theorem abcS_ix (i : Int) (s : Sto) : ixD (.str "abcdefghijklmnopqrstuvwxyz") (.int (i % 26)) s = .ok (.str (abcS i)) s := by
  obtain ⟨x, hx, e⟩ := ix_str (s := s) (z := "abcdefghijklmnopqrstuvwxyz") (i := i % 26) (by rw [abc_len]; decide) (by omega) (by rw [abc_len]; omega)
  rw [ixD_str (by rw [abc_len]; decide)] at e ⊢
  unfold abcS
  cases h : atI ("abcdefghijklmnopqrstuvwxyz" : Str).cps.toList (i % 26) with
  | none => rw [h] at e; cases e
  | some c => rfl
end PD

/-! Pdt: the least stretch of two. -/
namespace PD
open PySem L2
def least_b : GS :=
  (gSeq (gSet 2 (gOp (quiet borD) (gOp (quiet borD) (gOp (quiet bxorD) (gOp (quiet ixD) (gVar 0) (gC (.int 0))) (gOp (quiet ixD) (gVar 1) (gC (.int 0)))) (gOp (quiet subD) (gOp (quiet ixD) (gVar 0) (gC (.int 1))) (gC (.int 1)))) (gOp (quiet subD) (gOp (quiet ixD) (gVar 1) (gC (.int 1))) (gC (.int 1)))))
  (gSeq (gSet 3 (gBits (gVar 2)))
  (gRet (gTup (gCons (gOp (quiet shlD) (gOp (quiet shrD) (gOp (quiet ixD) (gVar 0) (gC (.int 0))) (gVar 3)) (gVar 3)) (gCons (gOp (quiet shlD) (gC (.int 1)) (gVar 3)) gNil))))))
/-- how many bits of unlikeness -/
def unl (a sa c sc : Nat) : Nat := ((a ^^^ c) ||| (sa - 1)) ||| (sc - 1)
def bts (a sa c sc : Nat) : Nat := Builtin.Int.intBits ((unl a sa c sc : Nat) : Int)
theorem least (a sa c sc : Nat) (h1 : 0 < sa) (h2 : 0 < sc) (ha : a < 18446744073709551616) (hb : bts a sa c sc ≤ 30) (s : Sto) : run 4 2 least_b [.tup [.int (a : Int), .int (sa : Int)], .tup [.int (c : Int), .int (sc : Int)]] s = .ok (.tup [.int ((a / 2 ^ bts a sa c sc * 2 ^ bts a sa c sc : Nat) : Int), .int ((2 ^ bts a sa c sc : Nat) : Int)]) s := by
  refine EW.eq ((ew_run (p := 2) rfl).mpr ?_)
  unfold least_b
  have e1 : (sa : Int) - 1 = ((sa - 1 : Nat) : Int) := by omega
  have e2 : (sc : Int) - 1 = ((sc - 1 : Nat) : Int) := by omega
  simp [startD]
  rw [e1, e2, bxor_n, bor_n, bor_n]
  have e3 : Builtin.Int.intBits ((((a ^^^ c) ||| (sa - 1)) ||| (sc - 1) : Nat) : Int) = bts a sa c sc := rfl
  rw [e3]
  generalize bts a sa c sc = n at *
  have h3 : a / 2 ^ n ≤ a := Nat.div_le_self _ _
  have h4 : (a : Int) / 2 ^ n = ((a / 2 ^ n : Nat) : Int) := by simp
  rw [h4]
  generalize a / 2 ^ n = w at *
  rw [shl_ok (by omega) (by omega) (by omega)]
  simp
  rw [shl1_ (by omega)]
  simp
/-- the bits at which two times part -/
def pb (a c : Nat) : Nat := Builtin.Int.intBits (((a ^^^ c : Nat) : Nat) : Int)
end PD

/-! Pdu: books as functions, the one tree of a book. -/
namespace PD
open PySem L2
abbrev Bk := Nat → Option D
inductive Tr where
  | lf (a : Nat) (d : D)
  | kn (lo b : Nat) (l r : Tr)
def Tr.lo : Tr → Nat
  | .lf a _ => a
  | .kn lo _ _ _ => lo
def Tr.bt : Tr → Nat
  | .lf _ _ => 0
  | .kn _ b _ _ => b
def jn (lo b : Nat) : Option Tr → Option Tr → Option Tr
  | none, r => r
  | some l, none => some l
  | some l, some r => some (.kn lo b l r)
/-- the tree of the deeds at times from lo on, 2^b of them -/
def mk : Nat → Nat → Bk → Option Tr
  | 0, lo, f => (f lo).map (Tr.lf lo)
  | b + 1, lo, f => jn lo (b + 1) (mk b lo f) (mk b (lo + 2 ^ b) f)
def Bk.put (f : Bk) (a : Nat) (d : Option D) : Bk := fun x => if x = a then d else f x
def Bk.res (f : Bk) (lo n : Nat) : Bk := fun x => if lo ≤ x ∧ x < lo + n then f x else none
theorem pw2 (b : Nat) : 2 ^ (b + 1) = 2 ^ b + 2 ^ b := by
  rw [Nat.pow_succ, Nat.mul_comm, Nat.two_mul]
/-- knots as they must be -/
def Tr.ok : Tr → Prop
  | .lf _ _ => True
  | .kn lo b l r => ∃ c, b = c + 1 ∧ lo % 2 ^ b = 0 ∧ lo ≤ l.lo ∧ l.lo + 2 ^ l.bt ≤ lo + 2 ^ c ∧ lo + 2 ^ c ≤ r.lo ∧ r.lo + 2 ^ r.bt ≤ lo + 2 ^ b ∧ l.ok ∧ r.ok
structure In (t : Tr) (b lo : Nat) : Prop where
  lo_ : lo ≤ t.lo
  hi_ : t.lo + 2 ^ t.bt ≤ lo + 2 ^ b
  bt_ : t.bt ≤ b
/-! totals, data -/
structure KI where
  lone : Nat → D → D
  joined : D → D → D
def Tr.tot (ki : KI) : Tr → D
  | .lf a d => ki.lone a d
  | .kn _ _ l r => ki.joined (l.tot ki) (r.tot ki)
def Tr.dt (ki : KI) : Tr → D
  | .lf a d => .tup [.int (a : Int), .int ((2 ^ 0 : Nat) : Int), ki.lone a d, d]
  | .kn lo b l r => .tup [.int (lo : Int), .int ((2 ^ b : Nat) : Int), ki.joined (l.tot ki) (r.tot ki), l.dt ki, r.dt ki]
def Tr.rest (ki : KI) : Tr → List D
  | .lf a d => [d]
  | .kn lo b l r => [l.dt ki, r.dt ki]
theorem Tr.form (ki : KI) (t : Tr) : t.dt ki = .tup (.int (t.lo : Int) :: .int ((2 ^ t.bt : Nat) : Int) :: t.tot ki :: t.rest ki) := by
  cases t <;> rfl
def oD (ki : KI) : Option Tr → D
  | none => .non
  | some t => t.dt ki
@[simp] theorem oD_none (ki : KI) : oD ki none = .non := rfl
@[simp] theorem oD_some (ki : KI) (t : Tr) : oD ki (some t) = t.dt ki := rfl
/-! rows -/
def Tr.row : Tr → List (Nat × D)
  | .lf a d => [(a, d)]
  | .kn _ _ l r => l.row ++ r.row
def rowB : Nat → Nat → Bk → List (Nat × D)
  | 0, lo, f => match f lo with
    | none => []
    | some d => [(lo, d)]
  | b + 1, lo, f => rowB b lo f ++ rowB b (lo + 2 ^ b) f
theorem row_mem {f : Bk} : ∀ {b lo x : Nat} {d : D}, (x, d) ∈ rowB b lo f ↔ lo ≤ x ∧ x < lo + 2 ^ b ∧ f x = some d
  | 0, lo, x, d => by
    unfold rowB
    constructor
    · intro h
      cases hf : f lo with
      | none => rw [hf] at h; cases h
      | some e =>
        rw [hf] at h
        cases List.mem_singleton.mp h
        exact ⟨Nat.le_refl _, by simp, hf⟩
    · rintro ⟨h1, h2, h3⟩
      have : x = lo := by simp at h2; omega
      subst this
      rw [h3]
      exact List.mem_singleton.mpr rfl
  | b + 1, lo, x, d => by
    have e := pw2 b
    unfold rowB
    rw [List.mem_append, row_mem, row_mem]
    constructor
    · rintro (⟨h1, h2, h3⟩ | ⟨h1, h2, h3⟩)
      · exact ⟨h1, by omega, h3⟩
      · exact ⟨by omega, by omega, h3⟩
    · rintro ⟨h1, h2, h3⟩
      rcases Nat.lt_or_ge x (lo + 2 ^ b) with h | h
      · exact .inl ⟨h1, h, h3⟩
      · exact .inr ⟨h, by omega, h3⟩
def Asc (l : List (Nat × D)) : Prop := l.Pairwise fun p q => p.1 < q.1
theorem row_asc {f : Bk} : ∀ (b lo : Nat), Asc (rowB b lo f)
  | 0, lo => by
    unfold rowB
    cases f lo with
    | none => exact .nil
    | some d => exact List.pairwise_singleton _ _
  | b + 1, lo => by
    unfold rowB
    refine List.pairwise_append.mpr ⟨row_asc b lo, row_asc b (lo + 2 ^ b), ?_⟩
    rintro ⟨x, d⟩ hx ⟨y, e⟩ hy
    have h1 := row_mem.mp hx
    have h2 := row_mem.mp hy
    exact Nat.lt_of_lt_of_le h1.2.1 h2.1
/-! equality of trees -/
mutual
theorem okT_up : ∀ (n : Nat) (d : D), okT n d = true → okT (n + 1) d = true
  | n, .non, _ => by unfold okT; rfl
  | n, .bl _, _ => by unfold okT; rfl
  | n, .int _, _ => by unfold okT; rfl
  | n, .str z, h => by unfold okT at h ⊢; exact h
  | 0, .tup l, h => by unfold okT at h; cases h
  | n + 1, .tup l, h => by
    rw [okT] at h ⊢
    exact okTs_up n l h
  | n, .ref _, h => by unfold okT at h; cases h
theorem okTs_up : ∀ (n : Nat) (l : List D), okTs n l = true → okTs (n + 1) l = true
  | n, [], _ => by rw [okTs]
  | n, d :: r, h => by
    rw [okTs] at h ⊢
    obtain ⟨h1, h2⟩ := Bool.and_eq_true_iff.mp h
    exact Bool.and_eq_true_iff.mpr ⟨okT_up n d h1, okTs_up n r h2⟩
end
mutual
theorem eqv_self : ∀ d : D, PyData.eqv (toP d) (toP d) = true
  | .non => by simp [toP, PyData.eqv]
  | .bl b => by cases b <;> simp [toP, PyData.eqv]
  | .int i => by simp [toP, PyData.eqv]
  | .str z => by simp [toP, PyData.eqv]
  | .ref _ => by simp [toP, PyData.eqv]
  | .hot _ _ => by simp [toP, PyData.eqv]
  | .tup l => by
    rw [toP, PyData.eqv]
    exact eqvs_self l
theorem eqvs_self : ∀ l : List D, PyData.eqvAll (toPs l) (toPs l) = true
  | [] => by simp [toPs, PyData.eqvAll]
  | d :: r => by
    rw [toPs, PyData.eqvAll, eqv_self d, eqvs_self r]
    rfl
end
theorem eqB_refl (d : D) : eqB d d = true := eqv_self d
def Tr.all (okd : D → Prop) : Tr → Prop
  | .lf _ d => okd d
  | .kn _ _ l r => Tr.all okd l ∧ Tr.all okd r
/-! the plain kind -/
end PD

/-! Pdw: dicts: what they tell after a change; dicts that are books. -/
namespace PD
open PySem L2
section
variable {κ : Type} [DecidableEq κ] {l : List (κ × D)} {k k' : κ} {v d : D}
theorem valD_cons (k k' : κ) (v : D) (l : List (κ × D)) : valD ((k', v) :: l) k = if k' = k then some v else valD l k := by
  unfold valD
  rw [List.find?_cons]
  by_cases h : k' = k
  · simp [h]
  · simp [h]
theorem valD_nil (k : κ) : valD ([] : List (κ × D)) k = none := rfl
theorem valD_app (k k' : κ) (v : D) : ∀ l : List (κ × D), valD (l ++ [(k', v)]) k = match valD l k with
    | some d => some d
    | none => if k' = k then some v else none
  | [] => by
    rw [List.nil_append, valD_cons]
    rfl
  | (k1, v1) :: l => by
    rw [List.cons_append, valD_cons, valD_cons]
    by_cases h : k1 = k
    · simp [h]
    · simp only [h, if_false]
      exact valD_app k k' v l
theorem valD_none : ∀ {l : List (κ × D)}, valD l k = none ↔ k ∉ l.map (·.1)
  | [] => by simp [valD_nil]
  | (k1, v1) :: l => by
    rw [valD_cons, List.map_cons, List.mem_cons, not_or, ← valD_none (l := l)]
    by_cases h : k1 = k
    · simp [h]
    · simp [h, Ne.symm h, eq_comm]
theorem valD_mem : ∀ {l : List (κ × D)}, (l.map (·.1)).Nodup → (valD l k = some d ↔ (k, d) ∈ l)
  | [], _ => by simp [valD_nil]
  | (k1, v1) :: l, h => by
    rw [List.map_cons, List.nodup_cons] at h
    rw [valD_cons, List.mem_cons]
    by_cases e : k1 = k
    · subst e
      simp only [if_true, Option.some.injEq, Prod.mk.injEq, true_and]
      constructor
      · exact fun q => .inl q.symm
      · rintro (q | q)
        · exact q.symm
        · exact absurd (List.mem_map.mpr ⟨_, q, rfl⟩) h.1
    · rw [if_neg e, valD_mem h.2]
      constructor
      · exact .inr
      · rintro (q | q)
        · cases q; exact absurd rfl e
        · exact q
theorem any_iff : (l.any fun kv => decide (kv.1 = k)) = true ↔ k ∈ l.map (·.1) := by
  rw [List.any_eq_true, List.mem_map]
  constructor
  · rintro ⟨x, h1, h2⟩
    exact ⟨x, h1, of_decide_eq_true h2⟩
  · rintro ⟨x, h1, h2⟩
    exact ⟨x, h1, decide_eq_true h2⟩
theorem valD_map (v : D) (k k' : κ) : ∀ l : List (κ × D), k' ∈ l.map (·.1) → valD (l.map fun kv => if kv.1 = k' then (kv.1, v) else kv) k = if k' = k then some v else valD l k
  | [], h => nomatch h
  | (k1, v1) :: l, h => by
    rw [List.map_cons]
    by_cases e : k1 = k'
    · subst e
      rw [if_pos rfl, valD_cons, valD_cons]
      by_cases e2 : k1 = k
      · simp [e2]
      · simp only [e2, if_false]
        by_cases h3 : k1 ∈ l.map (·.1)
        · rw [valD_map v k k1 l h3, if_neg e2]
        · congr 1
          refine (List.map_congr_left fun x hx => ?_).trans (List.map_id _)
          have : x.1 ≠ k1 := fun q => h3 (List.mem_map.mpr ⟨x, hx, q⟩)
          rw [if_neg this]
          rfl
    · have h3 : k' ∈ l.map (·.1) := by
        rcases List.mem_cons.mp h with q | q
        · exact absurd q.symm e
        · exact q
      rw [if_neg e, valD_cons, valD_cons, valD_map v k k' l h3]
      by_cases e2 : k1 = k
      · subst e2
        simp [Ne.symm e, e, eq_comm]
      · simp only [e2, if_false]
theorem valD_putD (l : List (κ × D)) (k k' : κ) (v : D) : valD (putD l k' v) k = if k' = k then some v else valD l k := by
  unfold putD
  by_cases h : (l.any fun kv => decide (kv.1 = k')) = true
  · rw [if_pos h]
    exact valD_map v k k' l (any_iff.mp h)
  · rw [if_neg h, valD_app]
    by_cases e : k' = k
    · subst e
      rw [valD_none.mpr fun q => h (any_iff.mpr q)]
    · simp only [e, if_false]
      cases valD l k <;> rfl
theorem valD_dropD (k k' : κ) : ∀ l : List (κ × D), valD (dropD l k') k = if k' = k then none else valD l k
  | [] => by
    show none = _
    split <;> rfl
  | (k1, v1) :: l => by
    have ih := valD_dropD k k' l
    unfold dropD at ih ⊢
    rw [List.filter_cons]
    by_cases e : k1 = k'
    · subst e
      simp only [ne_eq, not_true_eq_false, decide_false, Bool.false_eq_true, if_false, ih, valD_cons]
      by_cases e2 : k1 = k <;> simp [e2]
    · simp only [ne_eq, e, not_false_eq_true, decide_true, if_true, valD_cons]
      unfold valD at ih ⊢
      rw [ih]
      by_cases e2 : k1 = k
      · subst e2
        simp [Ne.symm e, eq_comm]
      · simp [e2]
theorem keys_putD (l : List (κ × D)) (k : κ) (v : D) : (putD l k v).map (·.1) = if k ∈ l.map (·.1) then l.map (·.1) else l.map (·.1) ++ [k] := by
  unfold putD
  by_cases h : (l.any fun kv => decide (kv.1 = k)) = true
  · rw [if_pos h, if_pos (any_iff.mp h), List.map_map]
    refine List.map_congr_left fun x hx => ?_
    simp only [Function.comp]
    split <;> rfl
  · rw [if_neg h, if_neg fun q => h (any_iff.mpr q), List.map_append]
    rfl
theorem nodup_putD (h : (l.map (·.1)).Nodup) (k : κ) (v : D) : ((putD l k v).map (·.1)).Nodup := by
  rw [keys_putD]
  split
  · exact h
  · next q =>
    refine List.nodup_append.mpr ⟨h, by simp, fun a ha b hb e => ?_⟩
    rw [List.mem_singleton.mp hb] at e
    exact q (e ▸ ha)
theorem nodup_dropD (h : (l.map (·.1)).Nodup) (k : κ) : ((dropD l k).map (·.1)).Nodup := List.Sublist.nodup (List.Sublist.map _ List.filter_sublist) h
end
/-! dicts in the store -/
section
variable {s t : Sto} {n m : Nat} {l : List (Key × D)} {k : Key} {x v d : D} {Q : D → Sto → Prop} {o : O}
theorem dk_of_dw (h : dw? s n = some l) : dk? s n = some l := by
  unfold dw? at h
  unfold dk?
  cases e : s[n]? with
  | none => rw [e] at h; cases h
  | some o => cases o <;> rw [e] at h <;> first | exact h | cases h
theorem dw_lt (h : dw? s n = some l) : n < s.length := by
  unfold dw? at h
  cases e : s[n]? with
  | none => rw [e] at h; cases h
  | some o => exact (List.getElem?_eq_some_iff.mp e).1
theorem dw_app (h : dw? s n = some l) : dw? (s ++ t) n = some l := by
  have hl := dw_lt h
  unfold dw? at h ⊢
  rw [List.getElem?_append_left hl]
  exact h
theorem dk_lt (h : dk? s n = some l) : n < s.length := by
  unfold dk? at h
  cases e : s[n]? with
  | none => rw [e] at h; cases h
  | some o => exact (List.getElem?_eq_some_iff.mp e).1
theorem dk_app (h : dk? s n = some l) : dk? (s ++ t) n = some l := by
  unfold dk? at h ⊢
  rw [List.getElem?_append_left (dk_lt (l := l) (by unfold dk?; exact h))]
  exact h
theorem isDk_ (h : dk? s n = some l) : isDk s (.ref n) = true := by
  show (dk? s n).isSome = true
  rw [h]
  rfl
end
/-! ### dicts that are books -/
abbrev T30 : Nat := 1073741824
structure DR (l : List (Key × D)) (f : Bk) : Prop where
  nd : (l.map (·.1)).Nodup
  of_ : ∀ k d, (k, d) ∈ l → ∃ x : Nat, x < T30 ∧ k = .inl (x : Int) ∧ f x = some d
  to_ : ∀ x d, f x = some d → x < T30 ∧ ((.inl (x : Int) : Key), d) ∈ l
def nobook : Bk := fun _ => none
theorem DR.nil : DR [] nobook := ⟨List.nodup_nil, fun _ _ h => (nomatch h), fun _ _ h => (nomatch h)⟩
theorem DR.val {l : List (Key × D)} {f : Bk} (h : DR l f) (x : Nat) : valD l (.inl (x : Int)) = f x := by
  cases e : f x with
  | some d => exact (valD_mem h.nd).mpr (h.to_ x d e).2
  | none =>
    cases e2 : valD l (.inl (x : Int)) with
    | none => rfl
    | some d =>
      obtain ⟨y, _, h1, h2⟩ := h.of_ _ _ ((valD_mem h.nd).mp e2)
      have : (x : Int) = (y : Int) := by injection h1
      have : x = y := by omega
      subst this
      rw [e] at h2
      cases h2
theorem DR.of_val {l : List (Key × D)} {f : Bk} (hn : (l.map (·.1)).Nodup) (hk : ∀ k ∈ l.map (·.1), ∃ x : Nat, x < T30 ∧ k = .inl (x : Int)) (hv : ∀ x : Nat, valD l (.inl (x : Int)) = f x) : DR l f := by
  refine ⟨hn, fun k d h => ?_, fun x d h => ?_⟩
  · obtain ⟨x, h1, h2⟩ := hk k (List.mem_map.mpr ⟨_, h, rfl⟩)
    refine ⟨x, h1, h2, ?_⟩
    rw [← hv, ← h2]
    exact (valD_mem hn).mpr h
  · rw [← hv] at h
    have hm := (valD_mem hn).mp h
    obtain ⟨y, h1, h2⟩ := hk _ (List.mem_map.mpr ⟨_, hm, rfl⟩)
    have : (x : Int) = (y : Int) := by injection h2
    exact ⟨by omega, hm⟩
theorem DR.key {l : List (Key × D)} {f : Bk} (h : DR l f) : ∀ k ∈ l.map (·.1), ∃ x : Nat, x < T30 ∧ k = .inl (x : Int) := fun k hk => by
  obtain ⟨⟨k', d⟩, h1, rfl⟩ := List.mem_map.mp hk
  obtain ⟨x, h2, h3, _⟩ := h.of_ _ _ h1
  exact ⟨x, h2, h3⟩
theorem DR.put {l : List (Key × D)} {f : Bk} (h : DR l f) {a : Nat} (ha : a < T30) (d : D) : DR (putD l (.inl (a : Int)) d) (f.put a (some d)) := by
  refine .of_val (nodup_putD h.nd ..) (fun k hk => ?_) fun x => ?_
  · rw [keys_putD] at hk
    split at hk
    · exact h.key k hk
    · rcases List.mem_append.mp hk with q | q
      · exact h.key k q
      · exact ⟨a, ha, List.mem_singleton.mp q⟩
  · rw [valD_putD, h.val]
    unfold Bk.put
    by_cases e : x = a
    · subst e
      simp
    · rw [if_neg e, if_neg]
      intro q
      have : (a : Int) = (x : Int) := by injection q
      omega
theorem DR.drop {l : List (Key × D)} {f : Bk} (h : DR l f) (a : Nat) : DR (dropD l (.inl (a : Int))) (f.put a none) := by
  refine .of_val (nodup_dropD h.nd ..) (fun k hk => ?_) fun x => ?_
  · obtain ⟨⟨k', d⟩, h1, rfl⟩ := List.mem_map.mp hk
    exact h.key _ (List.mem_map.mpr ⟨_, (List.mem_filter.mp h1).1, rfl⟩)
  · rw [valD_dropD, h.val]
    unfold Bk.put
    by_cases e : x = a
    · subst e
      simp
    · rw [if_neg e, if_neg]
      intro q
      have : (a : Int) = (x : Int) := by injection q
      omega
/-- the deeds of a book in the order of times -/
def rows (f : Bk) : List (Nat × D) := rowB 30 0 f
theorem DR.rows_mem {l : List (Key × D)} {f : Bk} (h : DR l f) {x : Nat} {d : D} : (x, d) ∈ rows f ↔ f x = some d := by
  unfold rows
  rw [row_mem]
  constructor
  · exact fun q => q.2.2
  · intro q
    have := (h.to_ x d q).1
    exact ⟨Nat.zero_le _, by simpa [T30] using this, q⟩
theorem DR.perm {l : List (Key × D)} {f : Bk} (h : DR l f) : l.Perm ((rows f).map fun p => ((.inl (p.1 : Int) : Key), p.2)) := by
  have hr : ((rows f).map fun p => ((.inl (p.1 : Int) : Key), p.2)).Nodup := by
    refine List.pairwise_map.mpr ((row_asc 30 0).imp ?_)
    intro p q hpq e
    have e1 : (p.1 : Int) = (q.1 : Int) := by
      have := congrArg Prod.fst e
      injection this
    omega
  have hl : l.Nodup := (List.pairwise_map.mp h.nd).imp fun q e => q (congrArg _ e)
  refine (List.perm_ext_iff_of_nodup hl hr).mpr ?_
  rintro ⟨k, d⟩
  rw [List.mem_map]
  constructor
  · intro q
    obtain ⟨x, h1, h2, h3⟩ := h.of_ k d q
    exact ⟨(x, d), h.rows_mem.mpr h3, by rw [h2]⟩
  · rintro ⟨⟨x, d'⟩, h1, h2⟩
    cases h2
    exact (h.to_ x d' (h.rows_mem.mp h1)).2
theorem DR.len {l : List (Key × D)} {f : Bk} (h : DR l f) : (rows f).length = l.length := by
  have := h.perm.length_eq
  rw [List.length_map] at this
  exact this.symm
/-! ### comprehensions over a list, one name -/
section
variable {s : Sto} {ρ : En} {i v r : Nat} {l : List D} {tt : GT} {te : GE} {p : D → Bool} {f : D → D} {Q : D → Sto → Prop}
end
end PD

/-! Pdx: stores that grew; new things by their names; what a tree has ahead of a number. -/
namespace PD
open PySem L2
def Ext (s s' : Sto) : Prop := ∃ t, s' = s ++ t
section
variable {s s1 s2 s3 t : Sto} {Q : D → Sto → Prop} {l l' : List D} {n m k : Nat} {x d : D} {ρ : En} {kvs : List (Key × D)}
theorem Ext.refl : Ext s s := ⟨[], by simp⟩
theorem Ext.app : Ext s (s ++ t) := ⟨t, rfl⟩
theorem Ext.trans (h : Ext s1 s2) (h2 : Ext s2 s3) : Ext s1 s3 := by
  obtain ⟨t, rfl⟩ := h
  obtain ⟨u, rfl⟩ := h2
  exact ⟨t ++ u, List.append_assoc ..⟩
theorem Ext.sq (h : Ext s1 s2) (e : seq? s1 n = some l) : seq? s2 n = some l := by
  obtain ⟨t, rfl⟩ := h
  exact seq_app e
theorem Ext.ls (h : Ext s1 s2) (e : lst? s1 n = some l) : lst? s2 n = some l := by
  obtain ⟨t, rfl⟩ := h
  exact lst_app e
theorem Ext.dk (h : Ext s1 s2) (e : dk? s1 n = some kvs) : dk? s2 n = some kvs := by
  obtain ⟨t, rfl⟩ := h
  exact dk_app e
theorem Ext.ins {c : Str} {fs : List (Str × D)} (h : Ext s1 s2) (e : ins? s1 x = some (c, fs)) : ins? s2 x = some (c, fs) := by
  obtain ⟨t, rfl⟩ := h
  exact ins_app e
theorem Ext.len (h : Ext s1 s2) : s1.length ≤ s2.length := by
  obtain ⟨t, rfl⟩ := h
  simp
/-- a new list -/
def NL (l : List D) (s : Sto) (Q : D → Sto → Prop) : Prop := ∀ n s', Ext s s' → s.length ≤ n → lst? s' n = some l → Q (.ref n) s'
theorem nl (h : NL l s Q) : Q (.ref s.length) (s ++ [.lst l]) := h _ _ .app (Nat.le_refl _) (by simp)
theorem x_add (h1 : seq? s m = some l) (h2 : seq? s k = some l') (hl : l.length + l'.length ≤ 1000000) (h : NL (l ++ l') s Q) : EW (addD (.ref m) (.ref k) s) Q := by
  rw [add_lst_ h1 h2 hl]
  exact nl h
theorem x_sl {lo hi : Option Int} (h1 : seq? s m = some l) (h : NL (cutL l lo hi) s Q) : EW (slD (.ref m) lo hi s) Q := by
  rw [sl_ref_ h1]
  exact nl h
theorem x_lst {gl : GA} (h : EW (gl ρ s) fun l s1 => l.length ≤ 1000000 ∧ NL l s1 Q) : EW (gLst gl ρ s) Q := by
  rw [ew_lst]
  exact h.mono fun l s1 q => ⟨q.1, nl q.2⟩
theorem x_range (h : 0 ≤ k ∧ k ≤ 1000000) : rngOk (k : Int) = true := by
  unfold rngOk
  simp only [Bool.and_eq_true, decide_eq_true_eq]
  omega
end
/-! ### ahead -/
/-- the trees ahead of e, of a book's stretch -/
def cv : Nat → Nat → Nat → List (Nat × Nat)
  | 0, lo, e => if e = lo + 1 then [(0, lo)] else []
  | b + 1, lo, e => if e = lo + 2 ^ (b + 1) then [(b + 1, lo)] else if lo + 2 ^ b ≤ e then (b, lo) :: cv b (lo + 2 ^ b) e else cv b lo e
end PD
namespace PD
open PySem L2
end PD
namespace PD
open PySem L2
theorem rows_mem {f : Bk} {x : Nat} {d : D} : (x, d) ∈ rows f ↔ x < 1073741824 ∧ f x = some d := by
  unfold rows
  rw [row_mem]
  simp
end PD

/-! Pdy: equality of lists; comprehensions over pairs; lists repeated. -/
namespace PD
open PySem L2
section
variable {s : Sto} {m n : Nat} {L L' : List D}
theorem okTs_all : ∀ {L : List D} {n : Nat}, (∀ d ∈ L, okT n d = true) → okTs n L = true
  | [], n, _ => by rw [okTs]
  | d :: r, n, h => by
    rw [okTs, h d (List.mem_cons_self ..), okTs_all fun e he => h e (List.mem_cons_of_mem _ he)]
    rfl
end
def tD (t : Nat) : D := .int (t : Int)
def pD (p : Nat × D) : D := .tup [.int (p.1 : Int), p.2]
/-! comprehensions -/
section
variable {s : Sto} {ρ : En} {l : List D} {tt : GT} {te : GE} {it : IT} {P : Sto → Prop}
end
end PD
namespace PD
open PySem L2
section
variable {a b c : GE} {ρ : En} {s : Sto}
end
end PD
namespace PD
open PySem L2
end PD

/-! Pdz: one thing changed; rules that name what is new, with its place. -/
namespace PD
open PySem L2
/-- all but the thing m stays -/
def ExtX (m : Nat) (s s' : Sto) : Prop := s'.length = s.length ∧ ∀ n, n ≠ m → s'[n]? = s[n]?
section
variable {s s0 s1 s2 s3 s' t : Sto} {Q : D → Sto → Prop} {P : Sto → Prop} {l l' : List D} {n m k : Nat} {x d v : D} {ρ : En} {kvs : List (Key × D)} {o : O} {c : Str} {fs : List (Str × D)} {i : Int}
theorem ExtX.of : ExtX m s (s.set m o) := ⟨List.length_set .., fun n h => List.getElem?_set_ne (Ne.symm h)⟩
theorem ExtX.sq (x : ExtX m s s') (h : n ≠ m) (e : seq? s n = some l) : seq? s' n = some l := by
  unfold seq? at e ⊢
  rw [x.2 n h]
  exact e
theorem ExtX.ls (x : ExtX m s s') (h : n ≠ m) (e : lst? s n = some l) : lst? s' n = some l := by
  unfold lst? at e ⊢
  rw [x.2 n h]
  exact e
theorem ExtX.dk (x : ExtX m s s') (h : n ≠ m) (e : dk? s n = some kvs) : dk? s' n = some kvs := by
  unfold dk? at e ⊢
  rw [x.2 n h]
  exact e
theorem ExtX.ins (x : ExtX m s s') (h : n ≠ m) (e : ins? s (.ref n) = some (c, fs)) : ins? s' (.ref n) = some (c, fs) := by
  unfold ins? at e ⊢
  dsimp only at e ⊢
  rw [x.2 n h]
  exact e
theorem ExtX.trans (x : ExtX m s1 s2) (y : ExtX m s2 s3) : ExtX m s1 s3 := ⟨y.1.trans x.1, fun n h => (y.2 n h).trans (x.2 n h)⟩
theorem ExtX.refl : ExtX m s s := ⟨rfl, fun _ _ => rfl⟩
theorem Ext.setx (h : Ext s0 s) (g : s0.length ≤ m) (x : ExtX m s s') : Ext s0 s' := by
  obtain ⟨t, rfl⟩ := h
  refine ⟨s'.drop s0.length, ?_⟩
  have e : s'.take s0.length = s0 := by
    apply List.ext_getElem?
    intro n
    rw [List.getElem?_take]
    by_cases hn : n < s0.length
    · rw [if_pos hn, x.2 n (by omega), List.getElem?_append_left hn]
    · rw [if_neg hn, List.getElem?_eq_none (by omega)]
  conv => lhs; rw [← List.take_append_drop s0.length s', e]
def Pl (s s' : Sto) (n : Nat) : Prop := s.length ≤ n ∧ n < s'.length ∧ s.length ≤ s'.length
theorem Pl.of (h : lst? s' n = some l) (e : s.length ≤ n) (x : Ext s s') : s.length ≤ n ∧ n < s'.length ∧ s.length ≤ s'.length := ⟨e, lst_lt h, x.len⟩
/-- a new list -/
def NL2 (l : List D) (s : Sto) (Q : D → Sto → Prop) : Prop := ∀ n s', Ext s s' → s.length ≤ n ∧ n < s'.length ∧ s.length ≤ s'.length → lst? s' n = some l → Q (.ref n) s'
theorem NL2.old (h : NL2 l s Q) : NL l s Q := fun n s' e g q => h n s' e ⟨g, lst_lt q, e.len⟩ q
theorem y_add (h1 : seq? s m = some l) (h2 : seq? s k = some l') (hl : l.length + l'.length ≤ 1000000) (h : NL2 (l ++ l') s Q) : EW (addD (.ref m) (.ref k) s) Q := x_add h1 h2 hl h.old
theorem y_sl {lo hi : Option Int} (h1 : seq? s m = some l) (h : NL2 (cutL l lo hi) s Q) : EW (slD (.ref m) lo hi s) Q := x_sl h1 h.old
theorem y_lst {gl : GA} (h : EW (gl ρ s) fun l s1 => l.length ≤ 1000000 ∧ NL2 l s1 Q) : EW (gLst gl ρ s) Q := x_lst (h.mono fun l s1 q => ⟨q.1, q.2.old⟩)
theorem y_lst0 (h : NL2 [] s Q) : EW (gLst gNil ρ s) Q := y_lst (gl := gNil) (by rw [ew_nil]; exact ⟨by simp, h⟩)
theorem Ext.dw (h : Ext s1 s2) (e : dw? s1 n = some kvs) : dw? s2 n = some kvs := by
  obtain ⟨t, rfl⟩ := h
  exact dw_app e
theorem ExtX.dw (x : ExtX m s s') (h : n ≠ m) (e : dw? s n = some kvs) : dw? s' n = some kvs := by
  unfold dw? at e ⊢
  rw [x.2 n h]
  exact e
/-- a dict that is walked -/
def lk? (s : Sto) (n : Nat) : Option (List (Key × D)) := match s[n]? with
  | some (.lk l) => some l
  | _ => none
theorem lk_lt (h : lk? s n = some kvs) : n < s.length := by
  unfold lk? at h
  cases e : s[n]? with
  | none => rw [e] at h; cases h
  | some o => exact (List.getElem?_eq_some_iff.mp e).1
theorem dk_of_lk (h : lk? s n = some kvs) : dk? s n = some kvs := by
  unfold lk? at h
  unfold dk?
  cases e : s[n]? with
  | none => rw [e] at h; cases h
  | some o => cases o <;> rw [e] at h <;> first | exact h | cases h
theorem Ext.lk (h : Ext s1 s2) (e : lk? s1 n = some kvs) : lk? s2 n = some kvs := by
  obtain ⟨t, rfl⟩ := h
  have hl := lk_lt e
  unfold lk? at e ⊢
  rw [List.getElem?_append_left hl]
  exact e
theorem ExtX.lk (x : ExtX m s s') (h : n ≠ m) (e : lk? s n = some kvs) : lk? s' n = some kvs := by
  unfold lk? at e ⊢
  rw [x.2 n h]
  exact e
theorem ins_lt (h : ins? s (.ref n) = some (c, fs)) : n < s.length := by
  unfold ins? at h
  dsimp only at h
  cases e : s[n]? with
  | none => rw [e] at h; cases h
  | some o => exact (List.getElem?_eq_some_iff.mp e).1
/-! a list, a dict that changes -/
theorem y_app (h : lst? s n = some l) (hl : l.length < 1000000) (k : ∀ s', ExtX n s s' → s'.length = s.length → lst? s' n = some (l ++ [d]) → Q .non s') : EW (appendD (.ref n) [d] s) Q := by
  rw [append_ h hl]
  exact k _ .of (List.length_set ..) (lst_set_self (lst_lt h))
theorem key_int : key? (.int i) = some (.inl i) := rfl
theorem key_str {z : Str} : key? (.str z) = some (.inr z) := rfl
theorem key_tD : key? (tD n) = some (.inl (n : Int)) := rfl
theorem rng_nat (h : n ≤ 1000000) : rngOk (n : Int) = true := x_range ⟨Nat.zero_le _, h⟩
theorem atI_map {β : Type} {f : β → D} {l : List β} {i : Nat} {p : β} (h : l[i]? = some p) : atI (l.map f) (i : Int) = some (f p) := by
  obtain ⟨hi, e⟩ := List.getElem?_eq_some_iff.mp h
  rw [PD.atI_nat (by rw [List.length_map]; exact hi), List.getElem?_map, h]
  rfl
end
/-! loops over lists of things made from things -/
section
variable {β : Type} {f : β → D} {l : List β} {n : Nat} {ρ : En} {s : Sto} {N B C : En → Sto → Prop} {R : D → Sto → Prop}
end
end PD

/-! Pe0: the book of a row; rows put in by any order. -/
namespace PD
open PySem L2
/-- an order of numbers less than n -/
def Ord (o : List Nat) (n : Nat) : Prop := o.Perm (List.range n)
theorem Ord.len {o : List Nat} {n : Nat} (h : Ord o n) : o.length = n := by
  have := h.length_eq
  rw [List.length_range] at this
  exact this
theorem Ord.nd {o : List Nat} {n : Nat} (h : Ord o n) : o.Nodup := h.nodup_iff.mpr List.nodup_range
/-- the rows put in so far -/
def pre (rs : List (Nat × D)) (o : List Nat) (i : Nat) : List (Nat × D) := (o.take i).filterMap fun j => rs[j]?
/-! orders that are drawn -/
/-! comprehensions over lists of things made from things -/
section
variable {s : Sto} {ρ : En} {Q : D → Sto → Prop} {P : Sto → Prop} {β : Type} {f g : β → D} {l : List β} {it : IT} {te : GE} {tt : GT} {v : Nat} {a : GE}
end
end PD

/-! Pe1 (printed by mkpe1.py): the wp calculus with continuations that simp does not enter. -/
namespace PD
open PySem L2
inductive Un {α : Type} (a : α) : Type where
  | mk
def xE {β : Type} (r : Res β) (Q : β → Sto → Prop) (_u : Un Q := .mk) : Prop := EW r Q
def xS (r : RS) (N : En → Sto → Prop) (R : D → Sto → Prop) (B C : En → Sto → Prop) (_u : Un N := .mk) (_v : Un R := .mk) (_w : Un B := .mk) (_x : Un C := .mk) : Prop := SW r N R B C
def xB (x : Bool) (A B : Prop) (_u : Un A := .mk) (_v : Un B := .mk) : Prop := Br x A B
def xO {β : Type} (o : Option β) (Q : β → Prop) (_u : Un Q := .mk) : Prop := WO o Q
def xD (d : D) (Q : Bool → Prop) (_u : Un Q := .mk) : Prop := WB d Q
def xI (x : D) (s : Sto) (P : IT → Prop) (_u : Un P := .mk) : Prop := WI x s P
def xM (m : Str) (tab : List (Str × Fn)) (x : D) (s : Sto) (P : Fn → Prop) (_u : Un P := .mk) : Prop := MW m tab x s P
/-- a whole number, a text is there; a list comes of it -/
def xN (x : D) (P : Int → Prop) (_u : Un P := .mk) : Prop := ∃ i, x = .int i ∧ P i
def xT (x : D) (P : Str → Prop) (_u : Un P := .mk) : Prop := ∃ z, x = .str z ∧ P z
def xL (o : Option Sto) (P : Sto → Prop) (_u : Un P := .mk) : Prop := ∃ s2, o = some s2 ∧ P s2
/-- a condition, and what follows -/
def xC (c : Prop) (P : Prop) (_u : Un P := .mk) : Prop := c ∧ P
def xF (x : D) (s : Sto) (cs : List Str) (f : Str) (P : D → Prop) (_u : Un P := .mk) : Prop := ∃ c fs d, ins? s x = some (c, fs) ∧ c ∈ cs ∧ fldD fs f = some d ∧ P d
theorem if_int {i : Int} {P : Int → Prop} : xN (.int i) P ↔ P i := ⟨fun ⟨j, e, h⟩ => by cases e; exact h, fun h => ⟨i, rfl, h⟩⟩
theorem tf_str {z : Str} {P : Str → Prop} : xT (.str z) P ↔ P z := ⟨fun ⟨j, e, h⟩ => by cases e; exact h, fun h => ⟨z, rfl, h⟩⟩
theorem cf_true {P : Prop} : xC True P ↔ P := ⟨fun q => q.2, fun q => ⟨trivial, q⟩⟩
theorem mf_of {m : Str} {tab : List (Str × Fn)} {x : D} {s : Sto} {P : Fn → Prop} {c : Str} {fs : List (Str × D)} {fn : Fn} (hi : ins? s x = some (c, fs)) (ht : tab.find? (fun q => decide (q.1 = c)) = some (c, fn)) (hf : fldD fs m = none) : xM m tab x s P ↔ P fn := mw_of hi ht hf
section
variable {β γ : Type} {ρ ρ' : En} {s s' s1 : Sto} {N B C : En → Sto → Prop} {R : D → Sto → Prop} {Q : D → Sto → Prop}
variable {a b c o i : GE} {gl : GA} {t u : GT} {gs gr : GS} {op op' : Op2}
theorem to_ef {r : Res β} {Q : β → Sto → Prop} : EW r Q ↔ xE r Q := Iff.rfl
theorem to_sf {r : RS} : SW r N R B C ↔ xS r N R B C := Iff.rfl
theorem to_bf {x : Bool} {A B : Prop} : Br x A B ↔ xB x A B := Iff.rfl
theorem to_of {o : Option β} {Q : β → Prop} : WO o Q ↔ xO o Q := Iff.rfl
theorem to_df {d : D} {Q : Bool → Prop} : WB d Q ↔ xD d Q := Iff.rfl
theorem to_vf {d : D} {P : IT → Prop} : WI d s P ↔ xI d s P := Iff.rfl
theorem to_mf {m : Str} {tab : List (Str × Fn)} {x : D} {P : Fn → Prop} : MW m tab x s P ↔ xM m tab x s P := Iff.rfl
@[simp] theorem bf_t {A B : Prop} : xB true A B ↔ A := Iff.rfl
@[simp] theorem bf_f {A B : Prop} : xB false A B ↔ B := Iff.rfl
theorem bf_n {x : Bool} {A B : Prop} : xB (!x) A B ↔ xB x B A := br_n
theorem df_bl {k : Bool} {Q : Bool → Prop} : xD (.bl k) Q ↔ Q k := Iff.rfl
theorem of_some {k : β} {Q : β → Prop} : xO (some k) Q ↔ Q k := Iff.rfl
theorem vf_str {z : Str} {P : IT → Prop} : xI (.str z) s P ↔ P (itTxt z) := wi_str
theorem vf_tup {l : List D} {P : IT → Prop} : xI (.tup l) s P ↔ P (itSeq (.tup l)) := wi_tup
theorem vf_ref {n : Nat} {l : List D} {P : IT → Prop} (h : seq? s n = some l) : xI (.ref n) s P ↔ P (itSeq (.ref n)) := wi_ref h
theorem ef_part {Q : Option Int → Sto → Prop} : xE (gPart a ρ s) Q ↔ xE (a ρ s) fun x s1 => xN x fun i => Q (some i) s1 := ew_part
theorem ef_bits : xE (gBits a ρ s) Q ↔ xE (a ρ s) fun x s1 => xN x fun i => Q (.int (Builtin.Int.intBits i : Nat)) s1 := ew_bits
theorem ef_tup : xE (gTup gl ρ s) Q ↔ xE (gl ρ s) fun l s1 => xC (l.length ≤ 1000000) (Q (.tup l) s1) := ew_tup
theorem ef_lm {op : OpM} : xE (gLM op a gl ρ s) Q ↔ xE (a ρ s) fun x s1 => xC (isL s1 x = true) (xE (gl ρ s1) fun l s2 => xE (op x l s2) Q) := ew_lm
theorem ef_sm {op : OpM} : xE (gSM op a b ρ s) Q ↔ xE (a ρ s) fun x s1 => xT x fun z => xE (b ρ s1) fun y s2 => xE (op (.str z) [y] s2) Q := ew_sm
theorem ef_sm0 {op : OpM} : xE (gSM0 op a ρ s) Q ↔ xE (a ρ s) fun x s1 => xT x fun z => xE (op (.str z) [] s1) Q := ew_sm0
theorem ef_get1 : xE (gGet1 a b ρ s) Q ↔ xE (a ρ s) fun x s1 => xC (isDk s1 x = true) (xE (b ρ s1) fun k s2 => xE (getOf x k .non s2) Q) := ew_get1
theorem ef_get2 : xE (gGet2 a b c ρ s) Q ↔ xE (a ρ s) fun x s1 => xC (isDk s1 x = true) (xE (b ρ s1) fun k s2 => xE (c ρ s2) fun y s3 => xE (getOf x k y s3) Q) := ew_get2
theorem ef_fld {cs : List Str} {f : Str} : xE (gFld cs f a ρ s) Q ↔ xE (a ρ s) fun x s1 => xF x s1 cs f fun d => Q d s1 := ew_fld
theorem ef_rng1 {Q : IT → Sto → Prop} : xE (gRng1 a ρ s) Q ↔ xE (a ρ s) fun x s1 => xN x fun j => xC (rngOk j = true) (Q (itRng 0 j.toNat) s1) := ew_rng1
theorem ef_rng2 {Q : IT → Sto → Prop} : xE (gRng2 a b ρ s) Q ↔ xE (a ρ s) fun x s1 => xE (b ρ s1) fun y s2 => xN x fun i => xN y fun j => xC (rngOk i = true) (xC (rngOk j = true) (Q (itRng i (j - i).toNat) s2)) := by
  refine ew_rng2.trans (iff_of_eq ?_)
  show EW _ _ = EW _ _
  congr 1
  funext x s1
  congr 1
  funext y s2
  apply propext
  constructor
  · rintro ⟨i, j, rfl, rfl, h1, h2, q⟩
    exact ⟨i, rfl, j, rfl, h1, h2, q⟩
  · rintro ⟨i, rfl, j, rfl, h1, h2, q⟩
    exact ⟨i, j, rfl, rfl, h1, h2, q⟩
theorem ef_lc {fi : FI} {t : CT} {tt : GT} {te : GE} {vs : List Nat} : xE (gLc fi t tt te vs ρ s) Q ↔ xE (fi ρ s) fun it s1 => xL (lcG it t tt te s1.length (wipeD ρ vs) lots 0 (s1 ++ [.lst []])) fun s2 => Q (.ref s1.length) s2 := ew_lc
theorem sf_par2 {i j : Nat} : xS (gPar i j (gCons a (gCons b gNil)) ρ s) N R B C ↔ xE (a ρ s) fun x s1 => xE (b ρ s1) fun y s2 => N ((ρ.set i (some x)).set j (some y)) s2 := by
  refine sw_par.trans ?_
  rw [ew_cons]
  refine iff_of_eq ?_
  show EW _ _ = EW _ _
  congr 1
  funext x s1
  rw [ew_cons]
  show EW _ _ = EW _ _
  congr 1
  funext y s2
  show (∃ x' y', [x, y] = [x', y'] ∧ _) = _
  apply propext
  constructor
  · rintro ⟨x', y', e, q⟩
    cases e
    exact q
  · exact fun q => ⟨x, y, rfl, q⟩
theorem tupT2 {x y : D} {i j : Nat} : gTupT 2 (gTCons (gName_ i) (gTCons (gName_ j) gTNil)) (.tup [x, y]) ρ s = some ((ρ.set i (some x)).set j (some y), s) := rfl
theorem tupT3 {x y z : D} {i j k : Nat} : gTupT 3 (gTCons (gName_ i) (gTCons (gName_ j) (gTCons (gName_ k) gTNil))) (.tup [x, y, z]) ρ s = some (((ρ.set i (some x)).set j (some y)).set k (some z), s) := rfl
theorem ef_ix_ref {n : Nat} {l : List D} {i : Int} (h : seq? s n = some l) : xE (ixD (.ref n) (.int i) s) Q ↔ xO (atI l i) fun d => Q d s := ew_ix_ref h
theorem ef_len_ref {n : Nat} {l : List D} (h : seq? s n = some l) : xE (lenD [.ref n] s) Q ↔ Q (.int l.length) s := ew_len_ref h
theorem ef_ix_tup {l : List D} {i : Int} : xE (ixD (.tup l) (.int i) s) Q ↔ xO (atI l i) fun d => Q d s := ew_ix_tup
theorem ef_ok {d : β} {Q : β → Sto → Prop} : xE (.ok d s) Q ↔ Q d s := ew_ok
theorem sf_nx : xS (.nx ρ s) N R B C ↔ N ρ s := sw_nx
theorem sf_rt {d : D} : xS (.rt d s) N R B C ↔ R d s := sw_rt
theorem sf_bk : xS (.bk ρ s) N R B C ↔ B ρ s := sw_bk
theorem sf_ct : xS (.ct ρ s) N R B C ↔ C ρ s := sw_ct
theorem sf_next {r : RS} {k : En → Sto → RS} : xS (r.next k) N R B C ↔ xS r (fun ρ s => xS (k ρ s) N R B C) R B C := sw_next
theorem ef_var {i : Nat} : xE (gVar i ρ s) Q ↔ xO ρ[i]? fun o => xO o fun d => Q d s := ew_var
theorem ef_c {d : D} : xE (gC d ρ s) Q ↔ Q d s := ew_c
theorem ef_op : xE (gOp op a b ρ s) Q ↔ xE (a ρ s) fun x s1 => xE (b ρ s1) fun y s2 => xE (op x y s2) Q := ew_op
theorem ef_quiet {x y : D} : xE (quiet op x y s) Q ↔ xE (op x y s) Q := ew_quiet
theorem ef_un {op : D → Sto → Res D} : xE (gUn op a ρ s) Q ↔ xE (a ρ s) fun x s1 => xE (op x s1) Q := ew_un
theorem ef_T {Q : Bool → Sto → Prop} : xE (gT a ρ s) Q ↔ xE (a ρ s) fun x s1 => xO (tru? s1 x) fun k => Q k s1 := ew_T
theorem ef_Tb {Q : Bool → Sto → Prop} : xE (gTb a ρ s) Q ↔ xE (a ρ s) fun x s1 => xD x fun k => Q k s1 := ew_Tb
theorem ef_not {Q : Bool → Sto → Prop} : xE (gNot t ρ s) Q ↔ xE (t ρ s) fun x s1 => Q (!x) s1 := ew_not
theorem ef_and {Q : Bool → Sto → Prop} : xE (gAnd t u ρ s) Q ↔ xE (t ρ s) fun x s1 => xB x (xE (u ρ s1) Q) (Q false s1) := ew_and
theorem ef_or {Q : Bool → Sto → Prop} : xE (gOr t u ρ s) Q ↔ xE (t ρ s) fun x s1 => xB x (Q true s1) (xE (u ρ s1) Q) := ew_or
theorem ef_andV : xE (gAndV a b ρ s) Q ↔ xE (a ρ s) fun x s1 => xD x fun k => xB k (xE (b ρ s1) Q) (Q (.bl false) s1) := ew_andV
theorem ef_orV : xE (gOrV a b ρ s) Q ↔ xE (a ρ s) fun x s1 => xD x fun k => xB k (Q (.bl true) s1) (xE (b ρ s1) Q) := ew_orV
theorem ef_notV : xE (gNotV a ρ s) Q ↔ xE (a ρ s) fun x s1 => xD x fun k => Q (.bl (!k)) s1 := ew_notV
theorem ef_ifE : xE (gIfE t a b ρ s) Q ↔ xE (t ρ s) fun x s1 => xB x (xE (a ρ s1) Q) (xE (b ρ s1) Q) := ew_ifE
theorem ef_chain : xE (gChain op op' a b c ρ s) Q ↔ xE (a ρ s) fun x s1 => xE (b ρ s1) fun y s2 => xE (op x y s2) fun z s3 => xD z fun k => xB k (xE (c ρ s3) fun w s4 => xE (op' y w s4) Q) (Q (.bl false) s3) := ew_chain
theorem ef_isI {T : Ty} : xE (gIsI T a ρ s) Q ↔ xE (a ρ s) fun x s1 => xO (tyOf s1 x) fun k => Q (.bl (k.is T)) s1 := ew_isI
theorem ef_nil {Q : List D → Sto → Prop} : xE (gNil ρ s) Q ↔ Q [] s := ew_nil
theorem ef_cons {Q : List D → Sto → Prop} : xE (gCons a gl ρ s) Q ↔ xE (a ρ s) fun x s1 => xE (gl ρ s1) fun l s2 => Q (x :: l) s2 := ew_cons
theorem ef_call {m : Fn} : xE (gCall m gl ρ s) Q ↔ xE (gl ρ s) fun l s1 => xE (m l s1) Q := ew_call
theorem ef_cb {op : OpC} : xE (gCB op gl ρ s) Q ↔ xE (gl ρ s) fun l s1 => xE (op l s1) Q := ew_cb
theorem ef_noPart {Q : Option Int → Sto → Prop} : xE (gNoPart ρ s) Q ↔ Q none s := ew_noPart
theorem ef_sl {lo hi : FO} : xE (gSl a lo hi ρ s) Q ↔ xE (a ρ s) fun x s1 => xE (lo ρ s1) fun l s2 => xE (hi ρ s2) fun h s3 => xE (slD x l h s3) Q := ew_sl
theorem ef_meth {m : Str} {tab : List (Str × Fn)} : xE (gMeth m tab a gl ρ s) Q ↔ xE (a ρ s) fun x s1 => xM m tab x s1 fun fn => xE (gl ρ s1) fun l s2 => xE (fn (x :: l) s2) Q := ew_meth
theorem sf_skip : xS (gSkip ρ s) N R B C ↔ N ρ s := sw_skip
theorem sf_seq : xS (gSeq gs gr ρ s) N R B C ↔ xS (gs ρ s) (fun ρ s => xS (gr ρ s) N R B C) R B C := sw_seq
theorem sf_break : xS (gBreak ρ s) N R B C ↔ B ρ s := sw_break
theorem sf_cont : xS (gCont ρ s) N R B C ↔ C ρ s := sw_cont
theorem sf_expr : xS (gExpr a ρ s) N R B C ↔ xE (a ρ s) fun _ s1 => N ρ s1 := sw_expr
theorem sf_ret : xS (gRet a ρ s) N R B C ↔ xE (a ρ s) R := sw_ret
theorem sf_retN : xS (gRetN ρ s) N R B C ↔ R .non s := sw_retN
theorem sf_if : xS (gIf t gs gr ρ s) N R B C ↔ xE (t ρ s) fun x s1 => xB x (xS (gs ρ s1) N R B C) (xS (gr ρ s1) N R B C) := sw_if
theorem sf_set {i : Nat} : xS (gSet i a ρ s) N R B C ↔ xE (a ρ s) fun x s1 => N (ρ.set i (some x)) s1 := sw_set
theorem sf_asg {g : FG} : xS (gAsg a g ρ s) N R B C ↔ xE (a ρ s) fun x s1 => xO (g x ρ s1) fun w => N w.1 w.2 := sw_asg
theorem sf_put : xS (gPut o i a ρ s) N R B C ↔ xE (a ρ s) fun v s1 => xE (o ρ s1) fun x s2 => xE (i ρ s2) fun k s3 => xO (putO x k v s3) fun s' => N ρ s' := sw_put
theorem sf_aug {i : Nat} : xS (gAug i op a ρ s) N R B C ↔ xO ρ[i]? fun o => xO o fun d => xE (a ρ s) fun y s1 => xE (op d y s1) fun z s2 => N (ρ.set i (some z)) s2 := sw_aug
theorem sf_for {fi : FI} {g : FG} {b : GS} : xS (gFor fi g b ρ s) N R B C ↔ xE (fi ρ s) fun it s1 => xS (forG it g b lots 0 ρ s1) N R B C := sw_for
theorem ef_itA {Q : IT → Sto → Prop} : xE (gItA a ρ s) Q ↔ xE (a ρ s) fun x s1 => xI x s1 fun it => Q it s1 := ew_itA
theorem ef_rev {Q : IT → Sto → Prop} : xE (gRev a ρ s) Q ↔ xE (a ρ s) fun x s1 => ∃ n l, x = .ref n ∧ seq? s1 n = some l ∧ Q (itRev n l.length) s1 := ew_rev
end
end PD

/-! Pe2: lists that lose or win things; where two books differ. -/
namespace PD
open PySem L2
section
variable {s s' : Sto} {Q : D → Sto → Prop} {l l' : List D} {n m : Nat} {d : D} {kvs : List (Key × D)}
theorem tru_ref_ (h : seq? s n = some l) : tru? s (.ref n) = some (!l.isEmpty) := tru_ref h
end
/-! rising lists of numbers -/
/-! where two books differ -/
/-! equality of trees -/
/-! comprehensions over tuples -/
section
variable {s : Sto} {ρ : En} {P : Sto → Prop} {β : Type} {r : β → List D} {g : β → D} {l : List β} {it : IT} {te : GE} {tt : GT} {is : List Nat}
end
end PD

/-! Pe3: dicts: popped, copied, walked; sorted lists of numbers. -/
namespace PD
open PySem L2
section
variable {s s' s1 s2 : Sto} {Q : D → Sto → Prop} {P : Sto → Prop} {l l' : List D} {n m i : Nat} {d x : D} {kvs : List (Key × D)} {kk : Key} {o a : GE} {ρ : En} {N B C : En → Sto → Prop} {R : D → Sto → Prop} {g : GS} {ge : GE} {f : Bk}
/-! a walk over a dict -/
end
end PD

/-! Pe4: stores that grow and of which one thing changes. -/
namespace PD
open PySem L2
/-- what is there stays, but for the thing m -/
def ExtM (m : Nat) (s s' : Sto) : Prop := s.length ≤ s'.length ∧ ∀ n, n < s.length → n ≠ m → s'[n]? = s[n]?
section
variable {s s0 s1 s2 s3 s' t : Sto} {l : List D} {n m k : Nat} {kvs : List (Key × D)} {c : Str} {fs : List (Str × D)}
theorem ExtX.toM (x : ExtX m s s') : ExtM m s s' := ⟨Nat.le_of_eq x.1.symm, fun n _ h => x.2 n h⟩
theorem Ext.toM (x : Ext s s') : ExtM m s s' := by
  obtain ⟨t, rfl⟩ := x
  exact ⟨by simp, fun n h _ => List.getElem?_append_left h⟩
theorem ExtM.trans (x : ExtM m s1 s2) (y : ExtM m s2 s3) : ExtM m s1 s3 := ⟨Nat.le_trans x.1 y.1, fun n h g => (y.2 n (Nat.lt_of_lt_of_le h x.1) g).trans (x.2 n h g)⟩
theorem ExtM.refl : ExtM m s s := ⟨Nat.le_refl _, fun _ _ _ => rfl⟩
theorem ExtM.e (x : ExtM m s1 s2) (y : Ext s2 s3) : ExtM m s1 s3 := x.trans y.toM
theorem ExtM.x (x : ExtM m s1 s2) (y : ExtX m s2 s3) : ExtM m s1 s3 := x.trans y.toM
theorem ExtM.o (x : ExtM m s1 s2) (y : ExtX k s2 s3) (h : s1.length ≤ k) : ExtM m s1 s3 := ⟨Nat.le_trans x.1 (Nat.le_of_eq y.1.symm), fun n h1 g => (y.2 n (by omega)).trans (x.2 n h1 g)⟩
theorem ExtM.sq (x : ExtM m s s') (h : n ≠ m) (e : seq? s n = some l) : seq? s' n = some l := by
  have := seq_lt e
  unfold seq? at e ⊢
  rw [x.2 n this h]
  exact e
theorem ExtM.ls (x : ExtM m s s') (h : n ≠ m) (e : lst? s n = some l) : lst? s' n = some l := by
  have := lst_lt e
  unfold lst? at e ⊢
  rw [x.2 n this h]
  exact e
theorem ExtM.dw (x : ExtM m s s') (h : n ≠ m) (e : dw? s n = some kvs) : dw? s' n = some kvs := by
  have := dw_lt e
  unfold dw? at e ⊢
  rw [x.2 n this h]
  exact e
theorem ExtM.ins (x : ExtM m s s') (h : n ≠ m) (e : ins? s (.ref n) = some (c, fs)) : ins? s' (.ref n) = some (c, fs) := by
  have := ins_lt e
  unfold ins? at e ⊢
  dsimp only at e ⊢
  rw [x.2 n this h]
  exact e
/-- of a store ahead of m, all stays -/
theorem ExtM.ext (x : ExtM m s s') (h : Ext s0 s) (g : s0.length ≤ m) : Ext s0 s' := by
  obtain ⟨t, rfl⟩ := h
  refine ⟨s'.drop s0.length, ?_⟩
  have h1 := x.1
  rw [List.length_append] at h1
  have : s'.take s0.length = s0 := by
    apply List.ext_getElem?
    intro i
    rcases Nat.lt_or_ge i s0.length with hi | hi
    · rw [List.getElem?_take_of_lt hi, x.2 i (by rw [List.length_append]; omega) (by omega), List.getElem?_append_left hi]
    · rw [List.getElem?_eq_none (by rw [List.length_take]; omega), List.getElem?_eq_none hi]
  conv => lhs; rw [← List.take_append_drop s0.length s', this]
/-! a list from its end -/
/-! texts, and what stands in a list -/
variable {z z' : Str} {lo hi : Option Int} {x : D} {i : Int} {Q : D → Sto → Prop}
theorem sl_s (h : z.length ≤ 1000000) : slD (.str z) lo hi s = .ok (.str (cutS z lo hi)) s := sl_str_ h
theorem add_s (h : z.length + z'.length ≤ 1000000) : addD (.str z) (.str z') s = .ok (.str (z ++ z')) s := add_str_ h
theorem abcS_one (i : Int) : (abcS i).length = 1 := by
  obtain ⟨x, hx, e⟩ := atI_mem (l := ("abcdefghijklmnopqrstuvwxyz" : Str).cps.toList) (i := i % 26) (by omega) (by
    have h : ("abcdefghijklmnopqrstuvwxyz" : Str).cps.toList.length = 26 := by decide +kernel
    rw [h]
    omega)
  unfold abcS
  rw [e]
  rfl
theorem cat_ok {a b : Nat} (h1 : txtOk z = true ∧ z.length ≤ a) (h2 : txtOk z' = true ∧ z'.length ≤ b) : txtOk (z ++ z') = true ∧ (z ++ z').length ≤ a + b := ⟨txtOk_app h1.1 h2.1, by rw [str_len_app]; omega⟩
theorem cut_ok {a : Nat} (h1 : txtOk z = true ∧ z.length ≤ a) : txtOk (cutS z lo hi) = true ∧ (cutS z lo hi).length ≤ a := ⟨txtOk_cut h1.1 lo hi, Nat.le_trans (cut_le z lo hi) h1.2⟩
end
end PD

/-! Pe5: bags, plain: a row done deed by deed is its two parts joined. -/
namespace PD
open PySem L2
abbrev PP := Int × Int
/-- a deed of a bag -/
inductive BD | put (p : PP) | take | no
/-! the program's side -/
section
variable {s : Sto} {n : Nat} {l : List D} {Q : D → Sto → Prop} {ps : List PP}
end
end PD

/-! Pe6: the least of pairs, a pair removed; loops over tuples. -/
namespace PD
open PySem L2
section
variable {s : Sto} {n : Nat} {l : List D} {Q : D → Sto → Prop} {ps : List PP} {p : PP}
end
/-! single deeds joined -/
/-! slices, loops from the end, sorted numbers -/
section
variable {s : Sto} {n : Nat} {Q : D → Sto → Prop} {is : List Int}
end
end PD

/-! Pe7: dicts by texts; names, plain: a row done deed by deed is its two parts joined. -/
namespace PD
open PySem L2
/-! ### sorted texts -/
/-- a key more, where it is none yet -/
def insK (ks : List Str) (k : Str) : List Str := if k ∈ ks then ks else ks ++ [k]
theorem nd_insK {ks : List Str} {k : Str} (h : ks.Nodup) : (insK ks k).Nodup := by
  unfold insK
  by_cases q : k ∈ ks
  · rw [if_pos q]
    exact h
  · rw [if_neg q]
    refine List.pairwise_append.mpr ⟨h, List.pairwise_singleton _ _, fun a ha b hb => ?_⟩
    rw [List.mem_singleton.mp hb]
    rintro rfl
    exact q ha
/-! ### dicts by texts -/
structure TR (kvs : List (Key × D)) (ks : List Str) (g : Str → Option D) : Prop where
  keys : kvs.map (·.1) = ks.map Sum.inr
  nd : ks.Nodup
  val : ∀ k, valD kvs (.inr k) = g k
theorem TR.nil : TR [] [] fun _ => none := ⟨rfl, .nil, fun _ => rfl⟩
theorem inr_mem {ks : List Str} {k : Str} : (Sum.inr k : Key) ∈ ks.map Sum.inr ↔ k ∈ ks := by
  constructor
  · intro h
    obtain ⟨a, h1, h2⟩ := List.mem_map.mp h
    cases h2
    exact h1
  · exact fun h => List.mem_map.mpr ⟨k, h, rfl⟩
section
variable {kvs : List (Key × D)} {ks : List Str} {g : Str → Option D}
theorem TR.len (h : TR kvs ks g) : kvs.length = ks.length := by
  have := congrArg List.length h.keys
  simpa using this
theorem TR.put (h : TR kvs ks g) (k : Str) (d : D) : TR (putD kvs (.inr k) d) (insK ks k) (fun x => if x = k then some d else g x) := by
  refine ⟨?_, nd_insK h.nd, fun x => ?_⟩
  · rw [keys_putD, h.keys]
    unfold insK
    by_cases q : k ∈ ks
    · rw [if_pos (inr_mem.mpr q), if_pos q]
    · rw [if_neg (fun z => q (inr_mem.mp z)), if_neg q, List.map_append]
      rfl
  · rw [valD_putD, h.val]
    by_cases e : x = k
    · subst e
      simp
    · rw [if_neg e, if_neg]
      intro q
      cases q
      exact e rfl
theorem dropD_keys (k : Str) : ∀ {kvs : List (Key × D)} {ks : List Str}, kvs.map (·.1) = ks.map Sum.inr → (dropD kvs (.inr k)).map (·.1) = (ks.filter fun x => decide (x ≠ k)).map Sum.inr
  | [], ks, h => by
    cases ks with
    | nil => rfl
    | cons a b => cases h
  | p :: r, ks, h => by
    cases ks with
    | nil => cases h
    | cons a b =>
      rw [List.map_cons, List.map_cons] at h
      obtain ⟨h1, h2⟩ := List.cons.inj h
      have ih := dropD_keys k h2
      unfold dropD at ih ⊢
      rw [List.filter_cons, List.filter_cons, h1]
      by_cases q : a = k
      · subst q
        simp only [ne_eq, not_true, decide_false, Bool.false_eq_true, if_false]
        exact ih
      · have q2 : (Sum.inr a : Key) ≠ .inr k := fun z => q (by cases z; rfl)
        simp only [ne_eq, q, q2, not_false_eq_true, decide_true, if_true]
        rw [List.map_cons, List.map_cons, h1, ih]
theorem TR.drop (h : TR kvs ks g) (k : Str) : TR (dropD kvs (.inr k)) (ks.filter fun x => decide (x ≠ k)) (fun x => if x = k then none else g x) := by
  refine ⟨dropD_keys k h.keys, h.nd.sublist List.filter_sublist, fun x => ?_⟩
  rw [valD_dropD, h.val]
  by_cases e : x = k
  · subst e
    simp
  · rw [if_neg e, if_neg]
    intro q
    cases q
    exact e rfl
end
section
variable {s : Sto} {n : Nat} {Q : D → Sto → Prop} {kvs : List (Key × D)} {ks : List Str} {g : Str → Option D}
end
/-! ### names, plain -/
/-- of a name: whether a drop comes first; the number and the time of its last set, where it stands -/
abbrev NE := Bool × Option (Int × Int)
structure NS where
  lack : Int
  ks : List Str
  f : Str → Option NE
structure NOk (x : NS) : Prop where
  nd : x.ks.Nodup
  dom : ∀ k, k ∈ x.ks ↔ (x.f k).isSome = true
inductive ND | set (k : Str) (p : Int × Int) | drop (k : Str) | no
def nset (x : NS) (l : Int) (k : Str) (e : NE) : NS := ⟨x.lack + l, insK x.ks k, fun z => if z = k then some e else x.f z⟩
def wantS : Option NE → Bool
  | some e => e.1
  | none => false
def wantD : Option NE → Bool
  | some e => e.1
  | none => true
def lastO : Option NE → Option (Int × Int)
  | some e => e.2
  | none => none
def lackD (o : Option NE) : Int := if (lastO o).isNone then 1 else 0
def nstep (x : NS) : ND → NS
  | .set k p => nset x 0 k (wantS (x.f k), some p)
  | .drop k => nset x (lackD (x.f k)) k (wantD (x.f k), none)
  | .no => x
def n0 : NS := ⟨0, [], fun _ => none⟩
/-- the same but for the order of the names -/
def NEq (x y : NS) : Prop := x.lack = y.lack ∧ x.f = y.f
theorem NEq.refl (x : NS) : NEq x x := ⟨rfl, rfl⟩
theorem NEq.symm {x y : NS} (h : NEq x y) : NEq y x := ⟨h.1.symm, h.2.symm⟩
theorem NEq.trans {x y z : NS} (h : NEq x y) (g : NEq y z) : NEq x z := ⟨h.1.trans g.1, h.2.trans g.2⟩
theorem NEq.step {x y : NS} (h : NEq x y) (d : ND) : NEq (nstep x d) (nstep y d) := by
  obtain ⟨a, b⟩ := h
  cases d with
  | set k p =>
    refine ⟨?_, ?_⟩
    · show x.lack + 0 = y.lack + 0
      rw [a]
    · show (fun z => if z = k then some (wantS (x.f k), some p) else x.f z) = fun z => if z = k then some (wantS (y.f k), some p) else y.f z
      rw [b]
  | drop k =>
    refine ⟨?_, ?_⟩
    · show x.lack + lackD (x.f k) = y.lack + lackD (y.f k)
      rw [a, b]
    · show (fun z => if z = k then some (wantD (x.f k), none) else x.f z) = fun z => if z = k then some (wantD (y.f k), none) else y.f z
      rw [b]
  | no => exact ⟨a, b⟩
theorem NEq.fold : ∀ (l : List ND) {x y : NS}, NEq x y → NEq (l.foldl nstep x) (l.foldl nstep y)
  | [], _, _, h => h
  | d :: l, _, _, h => NEq.fold l (h.step d)
/-- a drop of the later row that comes first there, and finds the name -/
def met (f g : Str → Option NE) (k : Str) : Bool := match g k with
  | some (true, _) => (lastO (f k)).isSome
  | _ => false
/-! ### as data -/
/-! all names are texts of one kind -/
end PD

/-! Pe9: the plain side of try and of zip. -/
namespace PD
open PySem L2
section
variable {ρ ρ1 : En} {s s1 : Sto} {N B C : En → Sto → Prop} {R : D → Sto → Prop} {yes no : List Str} {b su el : GS} {e : Exn}
end
/-! ### a raise told step by step: equations of statements -/
section
variable {ρ ρ1 : En} {s s1 : Sto} {a b : GS} {c : GT} {e : Exn} {g : GE} {d : D} {i : Nat}
end
/-! ### what a def raises: a def's run ends in an exception without fields -/
end PD

/-! Pf0: texts by their words: split and join by a blank, texts of numbers. -/
namespace PD
open PySem L2
/-! texts of numbers -/
/-! a raise within a tuple -/
section
variable {ρ : En} {s s1 s2 : Sto} {a : GE} {gl : GA} {e : Exn} {d : D}
end
/-! parts and their whole -/
theorem txt_of (z : Str) : txtOk z = true ↔ ∀ c ∈ TL.tl z, c < 0x110000 := by
  unfold txtOk PyData.strOk
  rw [← Array.all_toList, List.all_eq_true]
  constructor
  · exact fun h c hc => of_decide_eq_true (h c hc)
  · exact fun h c hc => decide_eq_true (h c hc)
/-! letters -/
theorem abcS_let (i : Int) : ∀ c ∈ TL.tl (abcS i), 97 ≤ c ∧ c ≤ 122 := by
  have hall : ("abcdefghijklmnopqrstuvwxyz" : Str).cps.toList.all (fun c => decide (97 ≤ c) && decide (c ≤ 122)) = true := by decide +kernel
  obtain ⟨x, hx, e⟩ := atI_mem (l := ("abcdefghijklmnopqrstuvwxyz" : Str).cps.toList) (i := i % 26) (by omega) (by
    have h : ("abcdefghijklmnopqrstuvwxyz" : Str).cps.toList.length = 26 := by decide +kernel
    rw [h]
    omega)
  unfold abcS
  rw [e]
  intro c hc
  have h2 := List.all_eq_true.mp hall x hx
  rw [Bool.and_eq_true] at h2
  have hc2 : c = x := by simpa [TL.tl] using hc
  subst hc2
  exact ⟨of_decide_eq_true h2.1, of_decide_eq_true h2.2⟩
/-- n letters -/
def Nm (n : Nat) (z : Str) : Prop := z.length = n ∧ ∀ c ∈ TL.tl z, 97 ≤ c ∧ c ≤ 122
theorem Nm.app {n m : Nat} {z y : Str} (h : Nm n z) (g : Nm m y) : Nm (n + m) (z ++ y) := ⟨by rw [str_len_app, h.1, g.1], fun c hc => by
  rw [TL.tl_append] at hc
  rcases List.mem_append.mp hc with hc | hc
  · exact h.2 c hc
  · exact g.2 c hc⟩
theorem Nm.abc (i : Int) : Nm 1 (abcS i) := ⟨abcS_one i, abcS_let i⟩
theorem Nm.nil : Nm 0 "" := ⟨by decide +kernel, fun c hc => by
  have e : TL.tl ("" : Str) = [] := by decide +kernel
  rw [e] at hc
  cases hc⟩
theorem Nm.txt {n : Nat} {z : Str} (h : Nm n z) : txtOk z = true := (txt_of z).mpr fun c hc => by have := h.2 c hc; omega
theorem Nm.free {n k : Nat} {z : Str} (h : Nm n z) (hk : k < 97) : k ∉ TL.tl z := fun hc => by have := h.2 k hc; omega
/-! the signs of a number -/
/-! what a body tells, step by step -/
end PD

/-! Pf1: the plain side of try with clauses. -/
namespace PD
open PySem L2
section
variable {ρ ρ1 : En} {s s1 : Sto} {N B C : En → Sto → Prop} {R : D → Sto → Prop} {Q : D → Sto → Prop} {yes no : List Str} {b su el : GS} {e : Exn} {cls : List Cl} {g : XS} {on : Option Nat} {i : Nat} {a : Addr} {od : Option Addr} {x : Bool}
def xd? (s : Sto) (n : Nat) : Option (List (Str × D)) := match s[n]? with
  | some (.xd fs) => some fs
  | _ => none
theorem Ext.xd {n : Nat} {l : List (Str × D)} (h : Ext s s1) (e : xd? s n = some l) : xd? s1 n = some l := by
  obtain ⟨t, rfl⟩ := h
  unfold xd? at e ⊢
  cases z : s[n]? with
  | none => rw [z] at e; cases e
  | some o => rw [get_app z]; rw [z] at e; exact e
end
end PD

/-! Pf2: objects made by __init__, the plain side. -/
namespace PD
open PySem L2
end PD

/-! Pf3: what raises, the plain side. -/
namespace PD
open PySem L2
def ErrE {β : Type} (r : Res β) (P : Exn → Sto → Prop) : Prop := ∃ e s, r = .err e s ∧ P e s
def ErrS (r : RS) (P : Exn → En → Sto → Prop) : Prop := ∃ e ρ s, r = .err e ρ s ∧ P e ρ s
section
variable {β : Type} {ρ : En} {s : Sto} {N B C : En → Sto → Prop} {R : D → Sto → Prop} {P : Exn → En → Sto → Prop} {P' : Exn → Sto → Prop} {a b el : GS} {g o : GE} {gl : GA} {t : GT} {i n p : Nat} {m : Fn} {ds : List D} {cls : List Cl}
theorem ErrE.mono {r : Res β} {P Q : Exn → Sto → Prop} (h : ErrE r P) (k : ∀ e s, P e s → Q e s) : ErrE r Q := by
  obtain ⟨e, s, h1, h2⟩ := h
  exact ⟨e, s, h1, k e s h2⟩
theorem ErrS.mono {r : RS} {Q : Exn → En → Sto → Prop} (h : ErrS r P) (k : ∀ e ρ s, P e ρ s → Q e ρ s) : ErrS r Q := by
  obtain ⟨e, ρ, s, h1, h2⟩ := h
  exact ⟨e, ρ, s, h1, k e ρ s h2⟩
theorem ErrE.of {r : Res β} {e : Exn} {s' : Sto} (h : r = .err e s') (k : P' e s') : ErrE r P' := ⟨e, s', h, k⟩
end
section
variable {β : Type} {f : β → D} {l : List β} {n : Nat} {ρ : En} {s : Sto} {P : Exn → En → Sto → Prop}
end
section
variable {s : Sto} {n : Nat} {f : Bk} {Q : D → Sto → Prop} {L : List (Nat × D)}
end
end PD

/-! Pf4: a comprehension whose item may raise, the plain side. -/
namespace PD
open PySem L2
section
variable {β : Type} {f g : β → D} {e : β → En} {l : List β} {it : IT} {te : GE} {ρ : En} {s : Sto} {t : CT} {P : Sto → Prop} {Q : D → Sto → Prop} {fi : FI} {vs : List Nat}
end
end PD

/-! Pf5: sorted, of triples, the plain side. -/
namespace PD
open PySem L2
section
variable {s : Sto} {n : Nat} {Q : D → Sto → Prop} {ps : List Tp}
end
end PD

/-! Pf6: sorted(set(texts)), the plain side. -/
namespace PD
open PySem L2
end PD

/-! Pe8: sorted by key=lambda, plain: some order of the same things. -/
namespace PD
open PySem L2
section
variable {s s' s1 : Sto} {Q : D → Sto → Prop} {n : Nat} {x : Str} {js : List Nat} {a body : GE} {ρ : En}
theorem Ext.tab (e : Ext s s') {i : Nat} {o : O} (h : s[i]? = some o) : s'[i]? = some o := by
  obtain ⟨t, rfl⟩ := e
  rw [List.getElem?_append_left (List.getElem?_eq_some_iff.mp h).1]
  exact h
end
section
variable {β : Type} {f : β → D} {l : List β} {it : IT} {te : GE} {ρ : En} {s : Sto} {v : Nat} {P : Sto → Prop}
end
end PD

/-! Pf7: all, sorted by key of any items: the plain side. -/
namespace PD
open PySem L2
end PD

namespace LW
open PySem PD
/-- which classes stand under which -/
def isx (c C : PySem.Str) : Bool := decide ((c, C) ∈ ([("Undone", "PastError"), ("Undone", "Undone")] : List (PySem.Str × PySem.Str)))
def m_law_deed_l1 : GS :=
  (gSet 1 (gOp (quiet addD) (gVar 1) (gOp (quiet ixD) (gC (.str "abcdefghijklmnopqrstuvwxyz")) (gOp (quiet modD) (gOp (quiet addD) (gOp (quiet fdivD) (gVar 0) (gC (.int 8))) (gOp (quiet mulD) (gC (.int 5)) (gVar 2))) (gC (.int 26))))))
def m_law_deed_b : GS :=
  (gSeq (gSet 1 (gC (.str "")))
  (gSeq (gFor (gRng1 (gOp (quiet modD) (gVar 0) (gC (.int 8)))) (gName_ 2) m_law_deed_l1)
  (gSeq (gSet 1 (gOp (quiet addD) (gVar 1) (gOp (quiet ixD) (gC (.str "abcdefghijklmnopqrstuvwxyz")) (gOp (quiet modD) (gOp (quiet fdivD) (gVar 0) (gC (.int 3))) (gC (.int 26))))))
  (gSeq (gIf (gTb (gOp (quiet eqD) (gOp (quiet modD) (gOp (quiet fdivD) (gVar 0) (gC (.int 5))) (gC (.int 3))) (gC (.int 0)))) (gRet (gTup (gCons (gVar 1) gNil))) gSkip)
  (gSeq (gIf (gTb (gOp (quiet eqD) (gOp (quiet modD) (gOp (quiet fdivD) (gVar 0) (gC (.int 5))) (gC (.int 3))) (gC (.int 1)))) (gRet (gTup (gCons (gVar 1) (gCons (gOp (quiet modD) (gOp (quiet fdivD) (gVar 0) (gC (.int 15))) (gOp (quiet powD) (gC (.int 10)) (gC (.int 30)))) gNil)))) gSkip)
  (gRet (gTup (gCons (gVar 1) (gCons (gOp (quiet addD) (gSl (gVar 1) (gPart (gC (.int 1))) gNoPart) (gC (.str "q"))) (gCons (gOp (quiet subD) (gOp (quiet modD) (gOp (quiet fdivD) (gVar 0) (gC (.int 15))) (gOp (quiet powD) (gC (.int 10)) (gC (.int 30)))) (gOp (quiet powD) (gC (.int 10)) (gC (.int 30)))) gNil))))))))))
def m_law_deed : Fn := run 3 1 m_law_deed_b
def m_law_whole_b : GS :=
  (gRet (gAndV (gIsI .int (gVar 0)) (gNotV (gIsI .bool (gVar 0)))))
def m_law_whole : Fn := run 1 1 m_law_whole_b
def m_law_bears_b : GS :=
  (gSeq (gIf (gOr (gNot (gT (gCall m_law_whole (gCons (gXat "Undone" "at" (gVar 0)) gNil)))) (gTb (gOp (quiet neD) (gXat "Undone" "at" (gVar 0)) (gVar 1)))) (gRet (gC (.bl false))) gSkip)
  (gRet (gAndV (gIsI .tuple (gXat "Undone" "deed" (gVar 0))) (gOp (quiet eqD) (gXat "Undone" "deed" (gVar 0)) (gVar 2)))))
def m_law_bears : Fn := run 3 3 m_law_bears_b
def m_law_alone_b : GS :=
  (gSeq (gIf (gOr (gT (gXIs "Undone" (isx "Undone" "NoTime") (gVar 0))) (gOr (gT (gXIs "Undone" (isx "Undone" "NoDeed") (gVar 0))) (gOr (gT (gXIs "Undone" (isx "Undone" "Taken") (gVar 0))) (gT (gXIs "Undone" (isx "Undone" "Bare") (gVar 0)))))) (gRet (gC (.bl false))) gSkip)
  (gSeq (gIf (gOr (gT (gXIs "Undone" (isx "Undone" "NoText") (gVar 0))) (gOr (gT (gXIs "Undone" (isx "Undone" "NoName") (gVar 0))) (gT (gXIs "Undone" (isx "Undone" "Known") (gVar 0))))) (gRet (gC (.bl false))) gSkip)
  (gRet (gAndV (gXIs "Undone" (isx "Undone" "PastError") (gVar 0)) (gXIs "Undone" true (gVar 0))))))
def m_law_alone : Fn := run 1 1 m_law_alone_b
def m_law_by_name_b : GS :=
  (gSeq (gTryK ["Undone"] [] 2 3 (gRaiseO "Undone" "at" "deed" (gCons (gVar 0) (gCons (gVar 1) gNil))))
  (gRet (gAndV (gCall m_law_bears (gCons (gVar 3) (gCons (gVar 0) (gCons (gVar 1) gNil)))) (gCall m_law_alone (gCons (gVar 3) gNil)))))
def m_law_by_name : Fn := run 4 2 m_law_by_name_b
def m_law_by_base_b : GS :=
  (gSeq (gTryK ["Undone"] [] 2 3 (gRaiseO "Undone" "at" "deed" (gCons (gVar 0) (gCons (gVar 1) gNil))))
  (gRet (gAndV (gCall m_law_bears (gCons (gVar 3) (gCons (gVar 0) (gCons (gVar 1) gNil)))) (gXIs "Undone" (isx "Undone" "Undone") (gVar 3)))))
def m_law_by_base : Fn := run 4 2 m_law_by_base_b
def m_law_l1 : GS :=
  (gExpr (gLM appendD (gVar 1) (gCons (gTup (gCons (gOp (quiet modD) (gOp (quiet fdivD) (gVar 2) (gC (.int 7))) (gC (.int 1073741824))) (gCons (gCall m_law_deed (gCons (gVar 2) gNil)) gNil))) gNil)))
def m_law_l2 : GS :=
  (gSeq (gIf (gOr (gNot (gT (gCall m_law_bears (gCons (gOp (quiet ixD) (gVar 3) (gVar 6)) (gCons (gOp (quiet ixD) (gOp (quiet ixD) (gVar 1) (gVar 6)) (gC (.int 0))) (gCons (gOp (quiet ixD) (gOp (quiet ixD) (gVar 1) (gVar 6)) (gC (.int 1))) gNil)))))) (gNot (gT (gCall m_law_alone (gCons (gOp (quiet ixD) (gVar 3) (gVar 6)) gNil))))) (gRet (gC (.bl false))) gSkip)
  (gIf (gOr (gNot (gT (gCall m_law_by_name (gCons (gOp (quiet ixD) (gOp (quiet ixD) (gVar 1) (gVar 6)) (gC (.int 0))) (gCons (gOp (quiet ixD) (gOp (quiet ixD) (gVar 1) (gVar 6)) (gC (.int 1))) gNil))))) (gNot (gT (gCall m_law_by_base (gCons (gOp (quiet ixD) (gOp (quiet ixD) (gVar 1) (gVar 6)) (gC (.int 0))) (gCons (gOp (quiet ixD) (gOp (quiet ixD) (gVar 1) (gVar 6)) (gC (.int 1))) gNil)))))) (gRet (gC (.bl false))) gSkip))
def m_law_b : GS :=
  (gSeq (gSet 1 (gLst gNil))
  (gSeq (gFor (gItA (gOp (quiet addD) (gSl (gVar 0) gNoPart (gPart (gC (.int 60)))) (gLst (gCons (gC (.int 7)) gNil)))) (gName_ 2) m_law_l1)
  (gSeq (gSet 3 (gLc (gItA (gVar 1)) (.tup [4, 5]) gYes (gMkO "Undone" "at" "deed" (gCons (gVar 4) (gCons (gVar 5) gNil))) [4, 5]))
  (gSeq (gFor (gRng1 (gCB lenD (gCons (gVar 1) gNil))) (gName_ 6) m_law_l2)
  (gRet (gC (.bl true)))))))
def m_law : Fn := run 7 1 m_law_b
end LW

namespace LW
open PySem PD L2
local macro_rules | `(tactic| get_elem_tactic_trivial) => `(tactic| first
  | with_reducible assumption
  | (with_reducible apply seq_of_lst; with_reducible assumption)
  | (with_reducible apply dk_of_dw; with_reducible assumption)
  | (with_reducible apply dk_of_lk; with_reducible assumption)
  | (with_reducible apply Ext.sq; with_reducible assumption; get_elem_tactic_trivial)
  | (with_reducible apply ExtX.sq; with_reducible assumption; omega; get_elem_tactic_trivial)
  | (with_reducible apply ExtM.sq; with_reducible assumption; omega; get_elem_tactic_trivial)
  | (with_reducible apply Ext.ls; with_reducible assumption; get_elem_tactic_trivial)
  | (with_reducible apply ExtX.ls; with_reducible assumption; omega; get_elem_tactic_trivial)
  | (with_reducible apply ExtM.ls; with_reducible assumption; omega; get_elem_tactic_trivial)
  | (with_reducible apply Ext.dk; with_reducible assumption; get_elem_tactic_trivial)
  | (with_reducible apply ExtX.dk; with_reducible assumption; omega; get_elem_tactic_trivial)
  | (with_reducible apply Ext.ins; with_reducible assumption; get_elem_tactic_trivial)
  | (with_reducible apply ExtX.ins; with_reducible assumption; omega; get_elem_tactic_trivial)
  | (with_reducible apply ExtM.ins; with_reducible assumption; omega; get_elem_tactic_trivial)
  | (with_reducible apply Ext.dw; with_reducible assumption; get_elem_tactic_trivial)
  | (with_reducible apply ExtX.dw; with_reducible assumption; omega; get_elem_tactic_trivial)
  | (with_reducible apply ExtM.dw; with_reducible assumption; omega; get_elem_tactic_trivial)
  | (with_reducible apply Ext.lk; with_reducible assumption; get_elem_tactic_trivial)
  | (with_reducible apply ExtX.lk; with_reducible assumption; omega; get_elem_tactic_trivial)
  | with_reducible exact Ext.refl
  | (with_reducible refine Ext.trans ?_ (by with_reducible assumption); get_elem_tactic_trivial))
local macro_rules | `(tactic| get_elem_tactic_extensible) => `(tactic| first
  | with_reducible assumption
  | exact (rfl : List.find? _ _ = some (_, _))
  | exact (rfl : fldD _ _ = none)
  | exact key_int
  | exact key_str
  | exact key_tD
  | get_elem_tactic_trivial
  | omega)
local macro_rules
  | `(tactic| simp_arith [$xs,*]) => `(tactic| simp (disch := get_elem_tactic_extensible) only [to_ef, to_sf, to_bf, to_of, to_df, to_vf, to_mf, bf_t, bf_f, bf_n, df_bl, of_some, vf_str, vf_tup, vf_ref, if_int, tf_str, cf_true, mf_of, sf_nx, sf_rt, sf_bk, sf_ct, sf_next, sf_skip, sf_seq, sf_break, sf_cont, sf_expr, sf_ret, sf_retN, sf_if, sf_set, sf_asg, sf_par2, sf_put, sf_aug, sf_for, tupT2, tupT3, ef_ok, ef_var, ef_c, ef_op, ef_quiet, ef_un, ef_T, ef_Tb, ef_not, ef_and, ef_or, ef_andV, ef_orV, ef_notV, ef_ifE, ef_chain, ef_isI, ef_nil, ef_cons, ef_tup, ef_call, ef_cb, ef_noPart, ef_part, ef_sl, ef_lm, ef_sm, ef_sm0, ef_bits, ef_get1, ef_get2, ef_fld, ef_meth, ef_itA, ef_rng1, ef_rng2, ef_rev, ef_lc, ef_ix_tup, ef_ix_ref, ef_len_ref, tru_bl, tru_non, tru_int, tru_tup, ty_non, ty_bl, ty_int, ty_str, ty_tup, isNon_non, isNon_int, isNon_str, isNon_bl, isNon_tup, isNon_ref, isN_, notN_, is_bb, not_bb, add_ii, sub_ii, iadd_ii, neg_i, lt_ii, le_ii, gt_ii, ge_ii, eq_ii, eq_ss, eq_bb, eq_nn, eq_ni, eq_in, eq_is, eq_si, eq_sn, eq_ns, ne_ii, ne_ss, ne_bb, ne_nn, ne_ni, ne_in, max_ii, min_ii, abs_i, len_tup_, bxor_ii, band_ii, bor_ii, atI_0, atI_1, atI_2, atI_3, atI_4, sl_tup_, ty_is_self, List.getElem?_cons_succ, List.getElem?_cons_zero, List.set_cons_succ, List.set_cons_zero, List.length_cons, List.length_nil, List.map_cons, List.map_nil, List.replicate, List.cons_append, List.nil_append, Nat.reduceAdd, Nat.reduceSub, Nat.reduceLeDiff, Nat.zero_add, startD, wipeD, D.int.injEq, exists_eq_left', exists_eq_left, true_and, and_true, eq_self, Int.zero_add, Bool.not_true, Bool.not_false, decide_true, decide_false, Int.toNat_natCast, ge_iff_le, tD, pD, tru_ref_, isL_, isDk_, ty_seq, rng_nat, mod_ok, fdiv_ok, $xs,*])
  | `(tactic| simp_arith) => `(tactic| simp (disch := get_elem_tactic_extensible) only [to_ef, to_sf, to_bf, to_of, to_df, to_vf, to_mf, bf_t, bf_f, bf_n, df_bl, of_some, vf_str, vf_tup, vf_ref, if_int, tf_str, cf_true, mf_of, sf_nx, sf_rt, sf_bk, sf_ct, sf_next, sf_skip, sf_seq, sf_break, sf_cont, sf_expr, sf_ret, sf_retN, sf_if, sf_set, sf_asg, sf_par2, sf_put, sf_aug, sf_for, tupT2, tupT3, ef_ok, ef_var, ef_c, ef_op, ef_quiet, ef_un, ef_T, ef_Tb, ef_not, ef_and, ef_or, ef_andV, ef_orV, ef_notV, ef_ifE, ef_chain, ef_isI, ef_nil, ef_cons, ef_tup, ef_call, ef_cb, ef_noPart, ef_part, ef_sl, ef_lm, ef_sm, ef_sm0, ef_bits, ef_get1, ef_get2, ef_fld, ef_meth, ef_itA, ef_rng1, ef_rng2, ef_rev, ef_lc, ef_ix_tup, ef_ix_ref, ef_len_ref, tru_bl, tru_non, tru_int, tru_tup, ty_non, ty_bl, ty_int, ty_str, ty_tup, isNon_non, isNon_int, isNon_str, isNon_bl, isNon_tup, isNon_ref, isN_, notN_, is_bb, not_bb, add_ii, sub_ii, iadd_ii, neg_i, lt_ii, le_ii, gt_ii, ge_ii, eq_ii, eq_ss, eq_bb, eq_nn, eq_ni, eq_in, eq_is, eq_si, eq_sn, eq_ns, ne_ii, ne_ss, ne_bb, ne_nn, ne_ni, ne_in, max_ii, min_ii, abs_i, len_tup_, bxor_ii, band_ii, bor_ii, atI_0, atI_1, atI_2, atI_3, atI_4, sl_tup_, ty_is_self, List.getElem?_cons_succ, List.getElem?_cons_zero, List.set_cons_succ, List.set_cons_zero, List.length_cons, List.length_nil, List.map_cons, List.map_nil, List.replicate, List.cons_append, List.nil_append, Nat.reduceAdd, Nat.reduceSub, Nat.reduceLeDiff, Nat.zero_add, startD, wipeD, D.int.injEq, exists_eq_left', exists_eq_left, true_and, and_true, eq_self, Int.zero_add, Bool.not_true, Bool.not_false, decide_true, decide_false, Int.toNat_natCast, ge_iff_le, tD, pD, tru_ref_, isL_, isDk_, ty_seq, rng_nat, mod_ok, fdiv_ok])
local macro_rules
  | `(tactic| simp_all_arith [$xs,*]) => `(tactic| simp (disch := get_elem_tactic_extensible) only [to_ef, to_sf, to_bf, to_of, to_df, to_vf, to_mf, bf_t, bf_f, bf_n, df_bl, of_some, vf_str, vf_tup, vf_ref, if_int, tf_str, cf_true, mf_of, sf_nx, sf_rt, sf_bk, sf_ct, sf_next, sf_skip, sf_seq, sf_break, sf_cont, sf_expr, sf_ret, sf_retN, sf_if, sf_set, sf_asg, sf_par2, sf_put, sf_aug, sf_for, tupT2, tupT3, ef_ok, ef_var, ef_c, ef_op, ef_quiet, ef_un, ef_T, ef_Tb, ef_not, ef_and, ef_or, ef_andV, ef_orV, ef_notV, ef_ifE, ef_chain, ef_isI, ef_nil, ef_cons, ef_tup, ef_call, ef_cb, ef_noPart, ef_part, ef_sl, ef_lm, ef_sm, ef_sm0, ef_bits, ef_get1, ef_get2, ef_fld, ef_meth, ef_itA, ef_rng1, ef_rng2, ef_rev, ef_lc, ef_ix_tup, ef_ix_ref, ef_len_ref, tru_bl, tru_non, tru_int, tru_tup, ty_non, ty_bl, ty_int, ty_str, ty_tup, isNon_non, isNon_int, isNon_str, isNon_bl, isNon_tup, isNon_ref, isN_, notN_, is_bb, not_bb, add_ii, sub_ii, iadd_ii, neg_i, lt_ii, le_ii, gt_ii, ge_ii, eq_ii, eq_ss, eq_bb, eq_nn, eq_ni, eq_in, eq_is, eq_si, eq_sn, eq_ns, ne_ii, ne_ss, ne_bb, ne_nn, ne_ni, ne_in, max_ii, min_ii, abs_i, len_tup_, bxor_ii, band_ii, bor_ii, atI_0, atI_1, atI_2, atI_3, atI_4, sl_tup_, ty_is_self, List.getElem?_cons_succ, List.getElem?_cons_zero, List.set_cons_succ, List.set_cons_zero, List.length_cons, List.length_nil, List.map_cons, List.map_nil, List.replicate, List.cons_append, List.nil_append, Nat.reduceAdd, Nat.reduceSub, Nat.reduceLeDiff, Nat.zero_add, startD, wipeD, D.int.injEq, exists_eq_left', exists_eq_left, true_and, and_true, eq_self, Int.zero_add, Bool.not_true, Bool.not_false, decide_true, decide_false, Int.toNat_natCast, ge_iff_le, tD, pD, tru_ref_, isL_, isDk_, ty_seq, rng_nat, mod_ok, fdiv_ok, Int.cast_ofNat_Int, Int.reduceLT, Int.reduceEq, Int.reduceLE, List.isEmpty_nil, List.isEmpty_cons, $xs,*])
  | `(tactic| simp_all_arith) => `(tactic| simp (disch := get_elem_tactic_extensible) only [to_ef, to_sf, to_bf, to_of, to_df, to_vf, to_mf, bf_t, bf_f, bf_n, df_bl, of_some, vf_str, vf_tup, vf_ref, if_int, tf_str, cf_true, mf_of, sf_nx, sf_rt, sf_bk, sf_ct, sf_next, sf_skip, sf_seq, sf_break, sf_cont, sf_expr, sf_ret, sf_retN, sf_if, sf_set, sf_asg, sf_par2, sf_put, sf_aug, sf_for, tupT2, tupT3, ef_ok, ef_var, ef_c, ef_op, ef_quiet, ef_un, ef_T, ef_Tb, ef_not, ef_and, ef_or, ef_andV, ef_orV, ef_notV, ef_ifE, ef_chain, ef_isI, ef_nil, ef_cons, ef_tup, ef_call, ef_cb, ef_noPart, ef_part, ef_sl, ef_lm, ef_sm, ef_sm0, ef_bits, ef_get1, ef_get2, ef_fld, ef_meth, ef_itA, ef_rng1, ef_rng2, ef_rev, ef_lc, ef_ix_tup, ef_ix_ref, ef_len_ref, tru_bl, tru_non, tru_int, tru_tup, ty_non, ty_bl, ty_int, ty_str, ty_tup, isNon_non, isNon_int, isNon_str, isNon_bl, isNon_tup, isNon_ref, isN_, notN_, is_bb, not_bb, add_ii, sub_ii, iadd_ii, neg_i, lt_ii, le_ii, gt_ii, ge_ii, eq_ii, eq_ss, eq_bb, eq_nn, eq_ni, eq_in, eq_is, eq_si, eq_sn, eq_ns, ne_ii, ne_ss, ne_bb, ne_nn, ne_ni, ne_in, max_ii, min_ii, abs_i, len_tup_, bxor_ii, band_ii, bor_ii, atI_0, atI_1, atI_2, atI_3, atI_4, sl_tup_, ty_is_self, List.getElem?_cons_succ, List.getElem?_cons_zero, List.set_cons_succ, List.set_cons_zero, List.length_cons, List.length_nil, List.map_cons, List.map_nil, List.replicate, List.cons_append, List.nil_append, Nat.reduceAdd, Nat.reduceSub, Nat.reduceLeDiff, Nat.zero_add, startD, wipeD, D.int.injEq, exists_eq_left', exists_eq_left, true_and, and_true, eq_self, Int.zero_add, Bool.not_true, Bool.not_false, decide_true, decide_false, Int.toNat_natCast, ge_iff_le, tD, pD, tru_ref_, isL_, isDk_, ty_seq, rng_nat, mod_ok, fdiv_ok, Int.cast_ofNat_Int, Int.reduceLT, Int.reduceEq, Int.reduceLE, List.isEmpty_nil, List.isEmpty_cons])
/-! ### exceptions that are kept -/
theorem xv_app {s t : Sto} {x : D} {r : PySem.Str × List (PySem.Str × D)} (h : xv? s x = some r) : xv? (s ++ t) x = some r := by
  have key : ∀ {n : Nat} {o : O}, s[n]? = some o → (s ++ t)[n]? = some o := fun {n o} e => by rw [List.getElem?_append_left (List.getElem?_eq_some_iff.mp e).1]; exact e
  cases x with
  | ref n =>
    unfold xv? at h ⊢
    dsimp only at h ⊢
    cases e : s[n]? with
    | none => rw [e] at h; cases h
    | some o =>
      rw [e] at h
      rw [key e]
      cases o with
      | exv c m =>
        dsimp only at h ⊢
        cases e2 : s[m]? with
        | none => rw [e2] at h; cases h
        | some o2 =>
          rw [e2] at h
          rw [key e2]
          exact h
      | _ => cases h
  | _ => cases h
theorem xv_set {s : Sto} {k : Nat} {l l' : List D} {x : D} {r : PySem.Str × List (PySem.Str × D)} (hk : lst? s k = some l) (h : xv? s x = some r) : xv? (s.set k (.lst l')) x = some r := by
  have key : ∀ {n : Nat} {o : O}, s[n]? = some o → (∀ l, o ≠ .lst l) → (s.set k (.lst l'))[n]? = some o := fun {n o} e ho => by
    have : k ≠ n := fun z => by
      subst z
      unfold lst? at hk
      rw [e] at hk
      cases o with
      | lst l0 => exact ho l0 rfl
      | _ => cases hk
    rw [List.getElem?_set_ne this]
    exact e
  cases x with
  | ref n =>
    unfold xv? at h ⊢
    dsimp only at h ⊢
    cases e : s[n]? with
    | none => rw [e] at h; cases h
    | some o =>
      rw [e] at h
      cases o with
      | exv c m =>
        rw [key e (fun l z => by cases z)]
        dsimp only at h ⊢
        cases e2 : s[m]? with
        | none => rw [e2] at h; cases h
        | some o2 =>
          rw [e2] at h
          cases o2 with
          | xd fs =>
            rw [key e2 (fun l z => by cases z)]
            exact h
          | _ => cases h
      | _ => cases h
  | _ => cases h
theorem xv_add (c : PySem.Str) (fs : List (PySem.Str × D)) (s : Sto) : xv? (addX c fs s) (.ref (s.length + 1)) = some (c, fs) := by
  have e1 : (addX c fs s)[s.length + 1]? = some (.exv c s.length) := by
    unfold addX
    rw [List.getElem?_append_right (by rw [List.length_append]; exact Nat.le_refl _), List.length_append, List.length_singleton, Nat.sub_self]
    rfl
  have e2 : (addX c fs s)[s.length]? = some (.xd fs) := by
    unfold addX
    rw [List.append_assoc, List.getElem?_append_right (Nat.le_refl _), Nat.sub_self]
    rfl
  unfold xv?
  dsimp only
  rw [e1]
  dsimp only
  rw [e2]
theorem addX_ext (c : PySem.Str) (fs : List (PySem.Str × D)) (s : Sto) : Ext s (addX c fs s) := ⟨[.xd fs, .exv c s.length], by unfold addX; rw [List.append_assoc]; rfl⟩
/-- an Undone of the time t and the deed d -/
abbrev uC : PySem.Str := "Undone"
abbrev uF (t : Int) (d : D) : List (PySem.Str × D) := [("deed", d), ("at", .int t)]
def Ud (s : Sto) (x : D) (t : Int) (d : D) : Prop := xv? s x = some (uC, uF t d)
theorem Ud.app {s u : Sto} {x : D} {t : Int} {d : D} (h : Ud s x t d) : Ud (s ++ u) x t d := xv_app h
theorem Ud.ext {s s' : Sto} {x : D} {t : Int} {d : D} (h : Ud s x t d) (e : Ext s s') : Ud s' x t d := by
  obtain ⟨u, rfl⟩ := e
  exact h.app
theorem ud_at {a : GE} {ρ : En} {s s1 : Sto} {x : D} {t : Int} {d : D} (ha : a ρ s = .ok x s1) (h : Ud s1 x t d) : gXat "Undone" "at" a ρ s = .ok (.int t) s1 := by
  unfold gXat
  rw [ha]
  show (match xv? s1 x with
  | some (c', fs) => if c' = "Undone" then (match valD fs "at" with
    | some d => Res.ok d s1
    | none => .bad) else .bad
  | none => .bad) = _
  rw [show xv? s1 x = _ from h]
  rfl
theorem ud_deed {a : GE} {ρ : En} {s s1 : Sto} {x : D} {t : Int} {d : D} (ha : a ρ s = .ok x s1) (h : Ud s1 x t d) : gXat "Undone" "deed" a ρ s = .ok d s1 := by
  unfold gXat
  rw [ha]
  show (match xv? s1 x with
  | some (c', fs) => if c' = "Undone" then (match valD fs "deed" with
    | some d => Res.ok d s1
    | none => .bad) else .bad
  | none => .bad) = _
  rw [show xv? s1 x = _ from h]
  rfl
theorem ud_is {a : GE} {ρ : En} {s s1 : Sto} {x : D} {t : Int} {d : D} {b : Bool} (ha : a ρ s = .ok x s1) (h : Ud s1 x t d) : gXIs "Undone" b a ρ s = .ok (.bl b) s1 := by
  unfold gXIs
  rw [ha]
  show (match xv? s1 x with
  | some (c', _) => if c' = "Undone" then Res.ok (D.bl b) s1 else .bad
  | none => .bad) = _
  rw [show xv? s1 x = _ from h]
  rfl
theorem ok_ew {r : Res D} {d : D} {s : Sto} (h : r = .ok d s) {Q : D → Sto → Prop} : EW r Q ↔ Q d s := by rw [h]; exact ew_ok
/-! ### the law's defs -/
/-- a deed -/
def Dd (d : D) : Prop := okT 60 d = true ∧ ∃ l, d = .tup l
theorem whole (t : Int) (s : Sto) : m_law_whole [.int t] s = .ok (.bl true) s := rfl
theorem bears {s : Sto} {x : D} {t : Int} {d : D} (h : Ud s x t d) (hd : Dd d) : m_law_bears [x, .int t, d] s = .ok (.bl true) s := by
  obtain ⟨ok, l, e⟩ := hd
  refine EW.eq ((ew_run (p := 3) rfl).mpr ?_)
  unfold m_law_bears_b
  have v : gVar 0 (startD 3 [x, .int t, d]) s = .ok x s := rfl
  have h1 := ud_at v h
  have h2 := ud_deed v h
  have hq : eqD d d s = .ok (.bl true) s := by rw [eqD_ok ok ok, eqB_refl]
  have ht : tyOf s d = some .tuple := by rw [e]; rfl
  have v1 : (startD 3 [x, .int t, d])[1]? = some (some (.int t)) := rfl
  have v2 : (startD 3 [x, .int t, d])[2]? = some (some d) := rfl
  generalize startD 3 [x, .int t, d] = ρ at v v1 v2 h1 h2
  simp [ok_ew h1, ok_ew h2, v1, v2, whole, ok_ew hq, ht, show Ty.tuple.is Ty.tuple = true from rfl]
theorem alone {s : Sto} {x : D} {t : Int} {d : D} (h : Ud s x t d) : m_law_alone [x] s = .ok (.bl true) s := by
  refine EW.eq ((ew_run (p := 1) rfl).mpr ?_)
  unfold m_law_alone_b
  have v : gVar 0 (startD 1 [x]) s = .ok x s := rfl
  have hi : ∀ b, gXIs "Undone" b (gVar 0) (startD 1 [x]) s = .ok (.bl b) s := fun b => ud_is v h
  generalize startD 1 [x] = ρ at v hi
  have f1 : isx "Undone" "NoTime" = false := by decide +kernel
  have f2 : isx "Undone" "NoDeed" = false := by decide +kernel
  have f3 : isx "Undone" "Taken" = false := by decide +kernel
  have f4 : isx "Undone" "Bare" = false := by decide +kernel
  have f5 : isx "Undone" "NoText" = false := by decide +kernel
  have f6 : isx "Undone" "NoName" = false := by decide +kernel
  have f7 : isx "Undone" "Known" = false := by decide +kernel
  have f8 : isx "Undone" "PastError" = true := by decide +kernel
  rw [f1, f2, f3, f4, f5, f6, f7, f8]
  simp [ok_ew (hi false), ok_ew (hi true), show ∀ b s, tru? s (.bl b) = some b from fun _ _ => rfl]
theorem kept {s : Sto} {t : Int} {d : D} : gTryK ["Undone"] [] 2 3 (gRaiseO "Undone" "at" "deed" (gCons (gVar 0) (gCons (gVar 1) gNil))) (startD 4 [.int t, d]) s = .nx [some (.int t), some d, none, some (.ref (s.length + 1))] (addX uC (uF t d) s) := by
  have e : gRaiseO "Undone" "at" "deed" (gCons (gVar 0) (gCons (gVar 1) gNil)) (startD 4 [.int t, d]) s = .err ⟨uC, some (uF t d)⟩ (startD 4 [.int t, d]) s := rfl
  unfold gTryK
  rw [e]
  dsimp only
  rw [if_pos ⟨List.mem_singleton.mpr rfl, show (2 : Nat) < 4 by decide⟩]
  rfl
theorem by_name (t : Int) {d : D} (hd : Dd d) (s : Sto) : m_law_by_name [.int t, d] s = .ok (.bl true) (addX uC (uF t d) s) := by
  have hu : Ud (addX uC (uF t d) s) (.ref (s.length + 1)) t d := xv_add _ _ _
  refine EW.eq ((ew_run (p := 2) rfl).mpr ?_)
  unfold m_law_by_name_b
  rw [sw_seq, kept, sw_nx]
  generalize addX uC (uF t d) s = s1 at hu
  simp [bears hu hd, alone hu]
theorem by_base (t : Int) {d : D} (hd : Dd d) (s : Sto) : m_law_by_base [.int t, d] s = .ok (.bl true) (addX uC (uF t d) s) := by
  have hu : Ud (addX uC (uF t d) s) (.ref (s.length + 1)) t d := xv_add _ _ _
  refine EW.eq ((ew_run (p := 2) rfl).mpr ?_)
  unfold m_law_by_base_b
  rw [sw_seq, kept, sw_nx]
  generalize addX uC (uF t d) s = s1 at hu
  have f8 : isx "Undone" "Undone" = true := by decide +kernel
  rw [f8]
  have v : gVar 3 [some (.int t), some d, none, some (.ref (s.length + 1))] s1 = .ok (.ref (s.length + 1)) s1 := rfl
  have hi := ud_is (b := true) v hu
  simp [bears hu hd, ok_ew hi]
/-! ### deeds -/
def wd (c : Int) : Nat → PySem.Str
  | 0 => ""
  | k + 1 => wd c k ++ abcS (c / 8 + 5 * (k : Int))
theorem wd_nm (c : Int) : ∀ n : Nat, Nm n (wd c n)
  | 0 => Nm.nil
  | k + 1 => (wd_nm c k).app (Nm.abc _)
def wo (c : Int) : PySem.Str := wd c (c % 8).toNat ++ abcS (c / 3)
theorem wo_nm (c : Int) : Nm ((c % 8).toNat + 1) (wo c) := (wd_nm c _).app (Nm.abc _)
def deedK (c : Int) : D := if c / 5 % 3 = 0 then .tup [.str (wo c)] else if c / 5 % 3 = 1 then .tup [.str (wo c), .int (c / 15 % 10 ^ 30)] else .tup [.str (wo c), .str (cutS (wo c) (some 1) none ++ "q"), .int (c / 15 % 10 ^ 30 - 10 ^ 30)]
theorem q_ok : txtOk ("q" : PySem.Str) = true ∧ ("q" : PySem.Str).length ≤ 1 := ⟨by decide +kernel, by decide +kernel⟩
theorem deed_Dd (c : Int) : Dd (deedK c) := by
  have hz : txtOk (wo c) = true ∧ (wo c).length ≤ 8 := ⟨(wo_nm c).txt, by rw [(wo_nm c).1]; omega⟩
  have hc := (cat_ok (cut_ok (lo := some 1) (hi := none) hz) q_ok).1
  have str : ∀ {z : PySem.Str}, txtOk z = true → okT 59 (.str z) = true := fun h => h
  unfold deedK
  split
  · refine ⟨?_, _, rfl⟩
    rw [okT]
    refine okTs_all fun d hd => ?_
    simp at hd
    rw [hd]
    exact str hz.1
  · split
    · refine ⟨?_, _, rfl⟩
      rw [okT]
      refine okTs_all fun d hd => ?_
      simp at hd
      rcases hd with rfl | rfl
      · exact str hz.1
      · rfl
    · refine ⟨?_, _, rfl⟩
      rw [okT]
      refine okTs_all fun d hd => ?_
      simp at hd
      rcases hd with rfl | rfl | rfl
      · exact str hz.1
      · exact str hc
      · rfl
theorem deed_eq (c : Int) (s : Sto) : m_law_deed [.int c] s = .ok (deedK c) s := by
  refine EW.eq ((ew_run (p := 1) rfl).mpr ?_)
  unfold m_law_deed_b
  obtain ⟨k, hk, h8⟩ : ∃ k : Nat, c % 8 = (k : Int) ∧ k < 8 := ⟨(c % 8).toNat, by omega, by omega⟩
  have p30 : ∀ s : Sto, powD (.int 10) (.int 30) s = .ok (.int (10 ^ 30)) s := fun s => pow_ok (by decide) (by decide) (by decide)
  have d30 : ∀ (x : Int) (s : Sto), modD (.int x) (.int (10 ^ 30)) s = .ok (.int (x % 10 ^ 30)) s := fun x s => mod_ok (by decide)
  have hw : wo c = wd c k ++ abcS (c / 3) := by
    unfold wo
    rw [hk, Int.toNat_natCast]
  have hz : txtOk (wo c) = true ∧ (wo c).length ≤ 8 := ⟨(wo_nm c).txt, by rw [(wo_nm c).1]; omega⟩
  have hcl := (cut_ok (lo := some 1) (hi := none) hz).2
  have h3 : ∀ s, addD (.str (wd c k)) (.str (abcS (c / 3))) s = .ok (.str (wo c)) s := fun s => by rw [hw]; exact add_s (by rw [(wd_nm c k).1, abcS_one]; omega)
  have h4 : ∀ s, slD (.str (wo c)) (some 1) none s = .ok (.str (cutS (wo c) (some 1) none)) s := fun s => sl_s (by omega)
  have h5 : ∀ s, addD (.str (cutS (wo c) (some 1) none)) (.str "q") s = .ok (.str (cutS (wo c) (some 1) none ++ "q")) s := fun s => add_s (by have := q_ok.2; omega)
  simp_arith [hk]
  refine for_rng (fun i ρ s' => s' = s ∧ ∃ v, ρ = [some (.int c), some (.str (wd c i)), v]) (by show k ≤ 1000000; omega) ?_ ?_ ⟨rfl, none, rfl⟩
  · rintro i ρ s' hi ⟨rfl, v, rfl⟩
    unfold m_law_deed_l1
    have h1 : ∀ s, mulD (.int 5) (.int (i : Int)) s = .ok (.int (5 * (i : Int))) s := fun s => mul_l (by omega) (by omega)
    have h2 : ∀ s, addD (.str (wd c i)) (.str (abcS (c / 8 + 5 * (i : Int)))) s = .ok (.str (wd c (i + 1))) s := fun s => add_s (by rw [(wd_nm c i).1, abcS_one]; omega)
    simp_arith [h1, abcS_ix, h2]
    exact ⟨_, rfl⟩
  · rintro ρ s' ⟨rfl, v, rfl⟩
    simp_arith [abcS_ix, h3]
    unfold deedK
    refine br_d (fun q => ?_) (fun q => ?_)
    · rw [if_pos q]
      (try simp_arith)
    · rw [if_neg q]
      simp_arith
      refine br_d (fun q2 => ?_) (fun q2 => ?_)
      · rw [if_pos q2]
        simp_arith [p30, d30]
      · rw [if_neg q2]
        simp_arith [p30, d30, h4, h5]
/-! ### the law -/
def pR (p : Int × D) : D := .tup [.int p.1, p.2]
theorem law_true : ∀ ns : List Int, ns.length ≤ 63 → ∃ s', m_law [.ref 0] [.scr (ns.map D.int)] = .ok (.bl true) s' := by
  intro ns hn
  have h : EW (m_law [.ref 0] [.scr (ns.map D.int)]) fun d s' => d = .bl true := by
    refine (ew_run rfl).mpr ?_
    unfold m_law_b
    have h0 : seq? [.scr (ns.map D.int)] 0 = some (ns.map .int) := rfl
    generalize hS : [O.scr (ns.map D.int)] = s0 at h0 ⊢
    (try simp_arith)
    refine y_lst0 fun rn s1 x1 g1 q1 => ?_
    (try simp_arith)
    refine y_sl (x1.sq h0) ?_
    intro n1 s2 x2 g2 q2
    (try simp_arith)
    refine y_lst ?_
    simp_arith
    intro n2 s3 x3 g3 q3
    have hL : AllI (cutL (ns.map D.int) none (some 60) ++ [.int 7]) := ((AllI.of ns).cut _ _).app (AllI.cons AllI.nil)
    have hLl : (cutL (ns.map D.int) none (some 60) ++ [D.int 7]).length ≤ 64 := by
      have := cut_len (ns.map D.int) none (some 60)
      rw [List.length_map] at this
      rw [List.length_append, List.length_singleton]
      omega
    refine y_add (x3.sq (seq_of_lst q2)) (seq_of_lst q3) (by rw [List.length_append] at hLl; omega) ?_
    intro n3 s4 x4 g4 q4
    generalize cutL (ns.map D.int) none (some 60) ++ [D.int 7] = L at hL hLl q4
    have hq := seq_of_lst q4
    have qr : lst? s4 rn = some [] := ((x2.trans x3).trans x4).ls q1
    have hne : n3 ≠ rn := by omega
    clear q2 q3
    (try simp_arith)
    refine for_list (l := L) (fun i ρ s => ∃ (R : List (Int × D)) (a : Option D), lst? s rn = some (R.map pR) ∧ R.length = i ∧ (∀ p ∈ R, Dd p.2) ∧ ExtX rn s4 s ∧ ρ = [some (.ref 0), some (.ref rn), a, none, none, none, none]) (by show _ ≤ 1000000; omega) (fun i ρ s ⟨R, a, _, _, _, x, _⟩ => x.sq hne hq) ?_ ?_ ⟨[], none, qr, rfl, fun p hp => (nomatch hp), .refl, rfl⟩
    · rintro i ρ s d hd ⟨R, a, q, hl, hD, x, rfl⟩
      obtain ⟨c, rfl⟩ := hL d (List.mem_of_getElem? hd)
      have hi := (List.getElem?_eq_some_iff.mp hd).1
      unfold m_law_l1
      simp_arith [deed_eq]
      refine y_app q (by rw [List.length_map]; omega) fun s' x' hl' q' => ?_
      exact ⟨R ++ [(c / 7 % 1073741824, deedK c)], _, by rw [q', List.map_append]; rfl, by rw [List.length_append, hl]; rfl, fun p hp => (List.mem_append.mp hp).elim (hD p) fun z => by rw [List.mem_singleton.mp z]; exact deed_Dd c, x.trans x', rfl⟩
    rintro ρ s ⟨R, a, q, hl, hD, x, rfl⟩
    have hqr := seq_of_lst q
    have hRl : R.length ≤ 64 := by omega
    clear x hq q4 qr h0
    have q0 : lst? (s ++ [O.lst []]) s.length = some [] := by simp
    (try simp_arith)
    refine lc_wp (n := s.length) R.length (fun i acc s' => Ext s s' ∧ acc.length = i ∧ ∀ (j : Nat) (p : Int × D) (x : D), R[j]? = some p → acc[j]? = some x → Ud s' x p.1 p.2) ?_ ?_ lots 0 [] (s ++ [.lst []]) (Nat.zero_le _) (lots_ok (by show R.length ≤ 1000000; omega) 0) q0 ⟨.app, rfl, fun j p x _ e => (by cases e)⟩
    · rintro i acc s' hi hs ⟨hx, hal, hU⟩
      have hp : R[i]? = some R[i] := List.getElem?_eq_getElem hi
      generalize R[i] = p at hp
      obtain ⟨t, d⟩ := p
      refine ⟨pR (t, d), ?_, _, rfl, ?_⟩
      · unfold itSeq
        rw [items_ref, hx.sq hqr]
        show some (R.map pR)[i]? = _
        rw [List.getElem?_map, hp]
        rfl
      · show EW (.ok true s') _
        rw [ew_ok]
        refine ⟨fun _ => ?_, fun h => (nomatch h)⟩
        show EW (Res.ok (D.ref (s'.length + 1)) (addX uC (uF t d) s')) _
        rw [ew_ok]
        have hs2 := (addX_ext uC (uF t d) s').ls hs
        refine ⟨hs2, by show _ < 1000000; omega, (hx.trans (addX_ext uC (uF t d) s')).setx (Nat.le_refl _) .of, by rw [List.length_append, hal]; rfl, fun j p x hj hx' => ?_⟩
        rcases Nat.lt_or_ge j acc.length with g | g
        · rw [List.getElem?_append_left g] at hx'
          exact xv_set hs2 ((hU j p x hj hx').ext (addX_ext _ _ _))
        · rw [List.getElem?_append_right g] at hx'
          have hj0 : j = i := by
            have := (List.getElem?_eq_some_iff.mp hx').1
            rw [List.length_singleton] at this
            omega
          subst hj0
          rw [hal, Nat.sub_self] at hx'
          cases hx'
          rw [hp] at hj
          cases hj
          exact xv_set hs2 (xv_add _ _ _)
    · rintro acc s5 hm ⟨x5, hal, hU⟩
      refine ⟨?_, ?_⟩
      · unfold itSeq
        rw [items_ref, x5.sq hqr]
        show some (R.map pR)[R.length]? = _
        rw [List.getElem?_eq_none (by rw [List.length_map]; exact Nat.le_refl _)]
      have hqr5 := x5.sq hqr
      have hm5 := seq_of_lst hm
      generalize s.length = mn at hm hm5
      have hml : (R.map pR).length = R.length := List.length_map ..
      simp_arith [hml, rng_nat (show R.length ≤ 1000000 by omega)]
      refine for_rng (fun i ρ s => Ext s5 s ∧ ∃ b, ρ = [some (.ref 0), some (.ref rn), a, some (.ref mn), none, none, b]) (by show _ ≤ 1000000; omega) ?_ ?_ ⟨.refl, _, rfl⟩
      · rintro i ρ s6 hi ⟨x6, b, rfl⟩
        rw [show (0 : Int) + (i : Int) = (i : Int) by omega]
        have hp : R[i]? = some R[i] := List.getElem?_eq_getElem hi
        have hdd := hD R[i] (List.getElem_mem hi)
        generalize R[i] = p at hp hdd
        obtain ⟨t, d⟩ := p
        have hdd : Dd d := hdd
        have ha : acc[i]? = some acc[i] := List.getElem?_eq_getElem (by omega)
        generalize acc[i] = y at ha
        have hu := hU i (t, d) y hp ha
        have hix1 : ∀ s', Ext s5 s' → ixD (.ref rn) (.int (i : Int)) s' = .ok (.tup [.int t, d]) s' := fun s' x' => ix_seq_ (x := .ref rn) (x'.sq hqr5) (atI_map (f := pR) hp)
        have hix3 : ∀ s', Ext s5 s' → ixD (.ref mn) (.int (i : Int)) s' = .ok y s' := fun s' x' => ix_seq_ (x := .ref mn) (x'.sq hm5) (by rw [PD.atI_nat (by omega), ha])
        have hb : ∀ s', Ext s5 s' → m_law_bears [y, .int t, d] s' = .ok (.bl true) s' := fun s' x' => bears (hu.ext x') hdd
        have hl : ∀ s', Ext s5 s' → m_law_alone [y] s' = .ok (.bl true) s' := fun s' x' => alone (hu.ext x')
        have x7 : Ext s5 (addX uC (uF t d) s6) := x6.trans (addX_ext _ _ _)
        have x8 : Ext s5 (addX uC (uF t d) (addX uC (uF t d) s6)) := x7.trans (addX_ext _ _ _)
        unfold m_law_l2
        simp_arith [hix1 _ x6, hix3 _ x6, hb _ x6, hl _ x6, by_name t hdd, by_base t hdd, hix1 _ x7]
        exact ⟨x8, _, rfl⟩
      · rintro ρ s6 ⟨x6, b, rfl⟩
        (try simp_arith)
  obtain ⟨d, s', e, rfl⟩ := h.ex
  exact ⟨s', e⟩
end LW

namespace LW
open PySem L2 PD HW
structure Fr (mg : PySem.Str → Option Value) : Prop where
  f_ValueError : mg "ValueError" = none
  f_bool : mg "bool" = none
  f_int : mg "int" = none
  f_isinstance : mg "isinstance" = none
  f_len : mg "len" = none
  f_range : mg "range" = none
  f_tuple : mg "tuple" = none
theorem bt_ValueError : bootBuiltins "ValueError" = some (.type "ValueError") := by decide +kernel
theorem bt_bool : bootBuiltins "bool" = some (.type "bool") := by decide +kernel
theorem bt_int : bootBuiltins "int" = some (.type "int") := by decide +kernel
theorem bt_len : bootBuiltins "len" = some (.builtin "len") := by decide +kernel
theorem bt_tuple : bootBuiltins "tuple" = some (.type "tuple") := by decide +kernel
section
variable {P : Program} {w : World} {K : PySem.W.Frag} {mg : PySem.Str → Option Value} {base : Heap}
theorem sc_m_law_deed : FnScope ["_law_cell", "_law_word", "_law_k"] ["_law_cell"] (defScope (top 11)) := ⟨rfl, rfl, rfl, by decide +kernel, rfl, by decide +kernel, by decide +kernel⟩
theorem ok_m_law_deed (B : Fr mg)  {at_ : PySem.Str × Option PySem.Str} {fd : FuncData} (F : FunP K at_ "_law_deed" "_law_deed" (top 11) fd) (hm : mg "_law_deed" = some (.ref (He.fAd K at_))) : Fg P w K mg base "_law_deed" ["_law_cell"] 1 m_law_deed :=
  Fg.of hm F.kp (F.bindsN fun _ _ _ _ _ _ us hl => match us, hl with | [_], _ => rfl) rfl (fn_body (k := 0) F sc_m_law_deed rfl rfl (fun cdv A outer s H E X hX hr tk hp => by
    subst hX
    have sc := sc_m_law_deed
    exact (jb_cons (js_set (i := 1) sc.nd je_str) (jb_cons (js_for hp rfl (ji_rng1 rfl B.f_range (je_op jo_mod (je_var 0) je_int)) (jg_name (i := 2) sc.nd) (jb_one (js_set (i := 1) sc.nd (je_op jo_add (je_var 1) (je_ix hr je_str (je_op jo_mod (je_op jo_add (je_op jo_fdiv (je_var 0) je_int) (je_op jo_mul je_int (je_var 2))) je_int) (fun _ _ => rfl)))))) (jb_cons (js_set (i := 1) sc.nd (je_op jo_add (je_var 1) (je_ix hr je_str (je_op jo_mod (je_op jo_fdiv (je_var 0) je_int) je_int) (fun _ _ => rfl)))) (jb_cons (js_if (jt_cmp (jo_eq hr) (je_op jo_mod (je_op jo_fdiv (je_var 0) je_int) je_int) je_int (nomark _)) (jb_one (js_ret (je_tup (ja_cons (je_var 1) ja_nil)))) jb_nil) (jb_cons (js_if (jt_cmp (jo_eq hr) (je_op jo_mod (je_op jo_fdiv (je_var 0) je_int) je_int) je_int (nomark _)) (jb_one (js_ret (je_tup (ja_cons (je_var 1) (ja_cons (je_op jo_mod (je_op jo_fdiv (je_var 0) je_int) (je_op jo_pow je_int je_int)) ja_nil))))) jb_nil) (jb_one (js_ret (je_tup (ja_cons (je_var 1) (ja_cons (je_op jo_add (je_slice (je_var 1) (jp_some je_int) jp_none) je_str) (ja_cons (je_op jo_sub (je_op jo_mod (je_op jo_fdiv (je_var 0) je_int) (je_op jo_pow je_int je_int)) (je_op jo_pow je_int je_int)) ja_nil)))))))))))))
theorem sc_m_law_whole : FnScope ["_law_found"] ["_law_found"] (defScope (top 12)) := ⟨rfl, rfl, rfl, by decide +kernel, rfl, by decide +kernel, by decide +kernel⟩
theorem ok_m_law_whole (B : Fr mg)  {at_ : PySem.Str × Option PySem.Str} {fd : FuncData} (F : FunP K at_ "_law_whole" "_law_whole" (top 12) fd) (hm : mg "_law_whole" = some (.ref (He.fAd K at_))) : Fg P w K mg base "_law_whole" ["_law_found"] 1 m_law_whole :=
  Fg.of hm F.kp (F.bindsN fun _ _ _ _ _ _ us hl => match us, hl with | [_], _ => rfl) rfl (fn_body (k := 0) F sc_m_law_whole rfl rfl (fun cdv A outer s H E X hX hr tk hp => by
    subst hX
    have sc := sc_m_law_whole
    exact (jb_one (js_ret (je_and (je_isI .int (by decide) (je_var 0) rfl rfl B.f_isinstance rfl B.f_int bt_int) (je_one (je_not (je_isI .bool (by decide) (je_var 0) rfl rfl B.f_isinstance rfl B.f_bool bt_bool))))))))
theorem sc_m_law_bears : FnScope ["_law_made", "_law_time", "_law_deed_here"] ["_law_made", "_law_time", "_law_deed_here"] (defScope (top 14)) := ⟨rfl, rfl, rfl, by decide +kernel, rfl, by decide +kernel, by decide +kernel⟩
theorem ok_m_law_bears (B : Fr mg) (h_m_law_whole : Fg P w K mg base "_law_whole" ["_law_found"] 1 m_law_whole) (xf_at : Xff K "at" ["Undone"]) (xf_deed : Xff K "deed" ["Undone"]) {at_ : PySem.Str × Option PySem.Str} {fd : FuncData} (F : FunP K at_ "_law_bears" "_law_bears" (top 14) fd) (hm : mg "_law_bears" = some (.ref (He.fAd K at_))) : Fg P w K mg base "_law_bears" ["_law_made", "_law_time", "_law_deed_here"] 2 m_law_bears :=
  Fg.of hm F.kp (F.bindsN fun _ _ _ _ _ _ us hl => match us, hl with | [_, _, _], _ => rfl) rfl (fn_body (k := 1) F sc_m_law_bears rfl rfl (fun cdv A outer s H E X hX hr tk hp => by
    subst hX
    have sc := sc_m_law_bears
    exact (jb_cons (js_if (JW.jt (jw_or (jt_not (jt_truth (je_call h_m_law_whole (hr.mono (by first | decide | omega)) tk (ja_cons (je_xat (xf_at _ (.head _)).1 (xf_at _ (.head _)).2 (je_var 0)) ja_nil)))) (jw_or1 (jt_cmp (jo_ne hr) (je_xat (xf_at _ (.head _)).1 (xf_at _ (.head _)).2 (je_var 0)) (je_var 1) (nomark _))))) (jb_one (js_ret je_bl)) jb_nil) (jb_one (js_ret (je_and (je_isI .tuple (by decide) (je_xat (xf_deed _ (.head _)).1 (xf_deed _ (.head _)).2 (je_var 0)) rfl rfl B.f_isinstance rfl B.f_tuple bt_tuple) (je_one (je_cmp (jo_eq hr) (je_xat (xf_deed _ (.head _)).1 (xf_deed _ (.head _)).2 (je_var 0)) (je_var 2) (nomark _)))))))))
theorem sc_m_law_alone : FnScope ["_law_made"] ["_law_made"] (defScope (top 13)) := ⟨rfl, rfl, rfl, by decide +kernel, rfl, by decide +kernel, by decide +kernel⟩
theorem ok_m_law_alone (B : Fr mg) (g_Bare : mg "Bare" = some (.ref (He.ga K "Bare"))) (g_Known : mg "Known" = some (.ref (He.ga K "Known"))) (g_NoDeed : mg "NoDeed" = some (.ref (He.ga K "NoDeed"))) (g_NoName : mg "NoName" = some (.ref (He.ga K "NoName"))) (g_NoText : mg "NoText" = some (.ref (He.ga K "NoText"))) (g_NoTime : mg "NoTime" = some (.ref (He.ga K "NoTime"))) (g_PastError : mg "PastError" = some (.ref (He.ga K "PastError"))) (g_Taken : mg "Taken" = some (.ref (He.ga K "Taken"))) (i_Bare : Xi K "Bare" ["Undone"] isx) (i_Known : Xi K "Known" ["Undone"] isx) (i_NoDeed : Xi K "NoDeed" ["Undone"] isx) (i_NoName : Xi K "NoName" ["Undone"] isx) (i_NoText : Xi K "NoText" ["Undone"] isx) (i_NoTime : Xi K "NoTime" ["Undone"] isx) (i_PastError : Xi K "PastError" ["Undone"] isx) (i_Taken : Xi K "Taken" ["Undone"] isx) (it_ValueError : Xit K "ValueError" ["Undone"] true) {at_ : PySem.Str × Option PySem.Str} {fd : FuncData} (F : FunP K at_ "_law_alone" "_law_alone" (top 13) fd) (hm : mg "_law_alone" = some (.ref (He.fAd K at_))) : Fg P w K mg base "_law_alone" ["_law_made"] 1 m_law_alone :=
  Fg.of hm F.kp (F.bindsN fun _ _ _ _ _ _ us hl => match us, hl with | [_], _ => rfl) rfl (fn_body (k := 0) F sc_m_law_alone rfl rfl (fun cdv A outer s H E X hX hr tk hp => by
    subst hX
    have sc := sc_m_law_alone
    exact (jb_cons (js_if (JW.jt (jw_or (jt_truth (je_xis (i_NoTime _ (.head _)).1 (i_NoTime _ (.head _)).2 g_NoTime B.f_isinstance (je_var 0))) (jw_or (jt_truth (je_xis (i_NoDeed _ (.head _)).1 (i_NoDeed _ (.head _)).2 g_NoDeed B.f_isinstance (je_var 0))) (jw_or (jt_truth (je_xis (i_Taken _ (.head _)).1 (i_Taken _ (.head _)).2 g_Taken B.f_isinstance (je_var 0))) (jw_or1 (jt_truth (je_xis (i_Bare _ (.head _)).1 (i_Bare _ (.head _)).2 g_Bare B.f_isinstance (je_var 0)))))))) (jb_one (js_ret je_bl)) jb_nil) (jb_cons (js_if (JW.jt (jw_or (jt_truth (je_xis (i_NoText _ (.head _)).1 (i_NoText _ (.head _)).2 g_NoText B.f_isinstance (je_var 0))) (jw_or (jt_truth (je_xis (i_NoName _ (.head _)).1 (i_NoName _ (.head _)).2 g_NoName B.f_isinstance (je_var 0))) (jw_or1 (jt_truth (je_xis (i_Known _ (.head _)).1 (i_Known _ (.head _)).2 g_Known B.f_isinstance (je_var 0))))))) (jb_one (js_ret je_bl)) jb_nil) (jb_one (js_ret (je_and (je_xis (i_PastError _ (.head _)).1 (i_PastError _ (.head _)).2 g_PastError B.f_isinstance (je_var 0)) (je_one (je_xisT (it_ValueError _ (.head _)).1 (it_ValueError _ (.head _)).2 B.f_ValueError bt_ValueError B.f_isinstance (je_var 0))))))))))
theorem sc_m_law_by_name : FnScope ["_law_time", "_law_deed_here", "e", "_law_kept"] ["_law_time", "_law_deed_here"] (defScope (top 15)) := ⟨rfl, rfl, rfl, by decide +kernel, rfl, by decide +kernel, by decide +kernel⟩
theorem ok_m_law_by_name (B : Fr mg) (h_m_law_alone : Fg P w K mg base "_law_alone" ["_law_made"] 1 m_law_alone) (h_m_law_bears : Fg P w K mg base "_law_bears" ["_law_made", "_law_time", "_law_deed_here"] 2 m_law_bears) (g_Undone : mg "Undone" = some (.ref (He.ga K "Undone"))) (o_Undone : Og P w K mg base "Undone" "at" "deed") (y_Undone : Xm K "Undone" ["Undone"] true) (n_Undone : Xm K "Undone" [] false) {at_ : PySem.Str × Option PySem.Str} {fd : FuncData} (F : FunP K at_ "_law_by_name" "_law_by_name" (top 15) fd) (hm : mg "_law_by_name" = some (.ref (He.fAd K at_))) : Fg P w K mg base "_law_by_name" ["_law_time", "_law_deed_here"] 3 m_law_by_name :=
  Fg.of hm F.kp (F.bindsN fun _ _ _ _ _ _ us hl => match us, hl with | [_, _], _ => rfl) rfl (fn_body (k := 2) F sc_m_law_by_name rfl rfl (fun cdv A outer s H E X hX hr tk hp => by
    subst hX
    have sc := sc_m_law_by_name
    exact (jb_cons (js_tryK (i := 2) (j := 3) g_Undone y_Undone n_Undone tk sc.nd (fun _ _ _ tk hp => (jb_one (js_raiseO o_Undone (hr.mono (by first | decide | omega)) tk rfl (ja_cons (je_var 0) (ja_cons (je_var 1) ja_nil))))) (fun _ _ => ps_asg (pe_var rfl (by first | exact Or.inl rfl | exact Or.inr (Or.inl rfl) | exact Or.inr (Or.inr rfl))) (pg_name sc.nd rfl (by first | exact Or.inl rfl | exact Or.inr rfl)))) (jb_one (js_ret (je_and (je_call h_m_law_bears (hr.mono (by first | decide | omega)) tk (ja_cons (je_var 3) (ja_cons (je_var 0) (ja_cons (je_var 1) ja_nil)))) (je_one (je_call h_m_law_alone (hr.mono (by first | decide | omega)) tk (ja_cons (je_var 3) ja_nil)))))))))
theorem sc_m_law_by_base : FnScope ["_law_time", "_law_deed_here", "e", "_law_kept"] ["_law_time", "_law_deed_here"] (defScope (top 16)) := ⟨rfl, rfl, rfl, by decide +kernel, rfl, by decide +kernel, by decide +kernel⟩
theorem ok_m_law_by_base (B : Fr mg) (h_m_law_bears : Fg P w K mg base "_law_bears" ["_law_made", "_law_time", "_law_deed_here"] 2 m_law_bears) (g_PastError : mg "PastError" = some (.ref (He.ga K "PastError"))) (g_Undone : mg "Undone" = some (.ref (He.ga K "Undone"))) (o_Undone : Og P w K mg base "Undone" "at" "deed") (i_Undone : Xi K "Undone" ["Undone"] isx) (y_PastError : Xm K "PastError" ["Undone"] true) (n_PastError : Xm K "PastError" [] false) {at_ : PySem.Str × Option PySem.Str} {fd : FuncData} (F : FunP K at_ "_law_by_base" "_law_by_base" (top 16) fd) (hm : mg "_law_by_base" = some (.ref (He.fAd K at_))) : Fg P w K mg base "_law_by_base" ["_law_time", "_law_deed_here"] 3 m_law_by_base :=
  Fg.of hm F.kp (F.bindsN fun _ _ _ _ _ _ us hl => match us, hl with | [_, _], _ => rfl) rfl (fn_body (k := 2) F sc_m_law_by_base rfl rfl (fun cdv A outer s H E X hX hr tk hp => by
    subst hX
    have sc := sc_m_law_by_base
    exact (jb_cons (js_tryK (i := 2) (j := 3) g_PastError y_PastError n_PastError tk sc.nd (fun _ _ _ tk hp => (jb_one (js_raiseO o_Undone (hr.mono (by first | decide | omega)) tk rfl (ja_cons (je_var 0) (ja_cons (je_var 1) ja_nil))))) (fun _ _ => ps_asg (pe_var rfl (by first | exact Or.inl rfl | exact Or.inr (Or.inl rfl) | exact Or.inr (Or.inr rfl))) (pg_name sc.nd rfl (by first | exact Or.inl rfl | exact Or.inr rfl)))) (jb_one (js_ret (je_and (je_call h_m_law_bears (hr.mono (by first | decide | omega)) tk (ja_cons (je_var 3) (ja_cons (je_var 0) (ja_cons (je_var 1) ja_nil)))) (je_one (je_xis (i_Undone _ (.head _)).1 (i_Undone _ (.head _)).2 g_Undone B.f_isinstance (je_var 3)))))))))
theorem sc_m_law : FnScope ["_law_script", "_law_rows", "_law_cell", "_law_made", "_law_time", "_law_deed_here", "_law_k"] ["_law_script"] (defScope (top 17)) := ⟨rfl, rfl, rfl, by decide +kernel, rfl, by decide +kernel, by decide +kernel⟩
theorem ok_m_law (B : Fr mg) (h_m_law_alone : Fg P w K mg base "_law_alone" ["_law_made"] 1 m_law_alone) (h_m_law_bears : Fg P w K mg base "_law_bears" ["_law_made", "_law_time", "_law_deed_here"] 2 m_law_bears) (h_m_law_by_base : Fg P w K mg base "_law_by_base" ["_law_time", "_law_deed_here"] 3 m_law_by_base) (h_m_law_by_name : Fg P w K mg base "_law_by_name" ["_law_time", "_law_deed_here"] 3 m_law_by_name) (h_m_law_deed : Fg P w K mg base "_law_deed" ["_law_cell"] 1 m_law_deed) (o_Undone : Og P w K mg base "Undone" "at" "deed") {at_ : PySem.Str × Option PySem.Str} {fd : FuncData} (F : FunP K at_ "law" "law" (top 17) fd) : FnOk P w K mg base (L2.CX P w) 4 (He.fAd K at_) fd ["_law_script"] (spG K 1 m_law) :=
  fn_body (k := 3) F sc_m_law rfl rfl (fun cdv A outer s H E X hX hr tk hp => by
    subst hX
    have sc := sc_m_law
    exact (jb_cons (js_set (i := 1) sc.nd (je_lst ja_nil)) (jb_cons (js_for hp rfl (ji_any (je_op jo_add (je_slice (je_var 0) jp_none (jp_some je_int)) (je_lst (ja_cons je_int ja_nil)))) (jg_name (i := 2) sc.nd) (jb_one (js_expr (je_lm PySem.F.slot_list_append PySem.F.type_list_append jm_append (je_var 1) (ja_cons (je_tup (ja_cons (je_op jo_mod (je_op jo_fdiv (je_var 2) je_int) je_int) (ja_cons (je_call h_m_law_deed (hr.mono (by first | decide | omega)) tk (ja_cons (je_var 2) ja_nil)) ja_nil))) ja_nil))))) (jb_cons (js_setLc (i := 3) (own := [("_law_time", 4), ("_law_deed_here", 5)]) (t := (.tup [4, 5])) rfl sc.nd (ji_any (je_var 1)) (blkOk_by (N := ["_law_script", "_law_rows", "_law_cell", "_law_made", "_law_time", "_law_deed_here", "_law_k"]) (sc := defScope (top 17)) (by decide +kernel)) (by decide) (fun _ _ _ _ _ => jct_tup rfl (pgs_cons (pg_name (i := 4) sc.nd rfl (by first | exact Or.inl rfl | exact Or.inr rfl)) (pgs_cons (pg_name (i := 5) sc.nd rfl (by first | exact Or.inl rfl | exact Or.inr rfl)) pgs_nil))) (fun _ _ _ _ _ => jts_nil) (fun _ _ _ _ _ => (je_mkO o_Undone (hr.mono (by first | decide | omega)) takes0 (ja_cons (je_var 4) (ja_cons (je_var 5) ja_nil)))) (sw_true rfl rfl rfl (by decide +kernel))) (jb_cons (js_for hp rfl (ji_rng1 rfl B.f_range (je_callB jc_len rfl B.f_len bt_len (ja_cons (je_var 1) ja_nil))) (jg_name (i := 6) sc.nd) (jb_cons (js_if (JW.jt (jw_or (jt_not (jt_truth (je_call h_m_law_bears (hr.mono (by first | decide | omega)) tk (ja_cons (je_ix hr (je_var 3) (je_var 6) (fun _ _ => rfl)) (ja_cons (je_ix hr (je_ix hr (je_var 1) (je_var 6) (fun _ _ => rfl)) je_int (fun _ _ => rfl)) (ja_cons (je_ix hr (je_ix hr (je_var 1) (je_var 6) (fun _ _ => rfl)) je_int (fun _ _ => rfl)) ja_nil)))))) (jw_or1 (jt_not (jt_truth (je_call h_m_law_alone (hr.mono (by first | decide | omega)) tk (ja_cons (je_ix hr (je_var 3) (je_var 6) (fun _ _ => rfl)) ja_nil))))))) (jb_one (js_ret je_bl)) jb_nil) (jb_one (js_if (JW.jt (jw_or (jt_not (jt_truth (je_call h_m_law_by_name (hr.mono (by first | decide | omega)) tk (ja_cons (je_ix hr (je_ix hr (je_var 1) (je_var 6) (fun _ _ => rfl)) je_int (fun _ _ => rfl)) (ja_cons (je_ix hr (je_ix hr (je_var 1) (je_var 6) (fun _ _ => rfl)) je_int (fun _ _ => rfl)) ja_nil))))) (jw_or1 (jt_not (jt_truth (je_call h_m_law_by_base (hr.mono (by first | decide | omega)) tk (ja_cons (je_ix hr (je_ix hr (je_var 1) (je_var 6) (fun _ _ => rfl)) je_int (fun _ _ => rfl)) (ja_cons (je_ix hr (je_ix hr (je_var 1) (je_var 6) (fun _ _ => rfl)) je_int (fun _ _ => rfl)) ja_nil)))))))) (jb_one (js_ret je_bl)) jb_nil)))) (jb_one (js_ret je_bl)))))))
theorem sc_oex_Undone : FnScope ["self", "at", "deed"] ["self", "at", "deed"] (defScope (inClass (top 6) 0)) := ⟨rfl, rfl, rfl, by decide +kernel, rfl, by decide +kernel, by decide +kernel⟩
end
theorem facts {P : Program} {w : World} {K : PySem.W.Frag} {h : Heap} {mg : PySem.Str → Option Value} {f : Addr} (KX : K.In h) (G : h.Ns mainGlobals mg) (hfa : mg "law" = some (.ref f)) (c : He.SaysD fal fnl K) (ce : (efl.all fun z => z.ok K) = true)
    (pure_ : ∀ ns : List Int, ns.length ≤ 63 → ∃ s', m_law [.ref 0] [.scr (ns.map D.int)] = .ok (.bl true) s') :
    ∃ (K : PySem.W.Frag) (fd : FuncData) (sp : Sp), K.In h ∧ (∀ (s : Shared) (u : Value), BindsTo s fd ⟨[u], []⟩ [("_law_script", u)]) ∧
        (∀ (H : Hp) (a : Addr) (ns : List Int), ns.length ≤ 63 → Only H → SqL K H a (ns.map V.int) → sp [.ref a] H (fun v _ => v = .bl true) fun _ _ _ => False) ∧
        ∀ base : Heap, K.In base → base.Ns mainGlobals mg → FnOk P w K mg base CX0 4 f fd ["_law_script"] sp := by
  obtain ⟨fd0, F0⟩ := c.def_ 0 (d := dd_0) rfl
  obtain ⟨fd1, F1⟩ := c.def_ 1 (d := dd_1) rfl
  obtain ⟨fd2, F2⟩ := c.def_ 2 (d := dd_2) rfl
  obtain ⟨fd3, F3⟩ := c.def_ 3 (d := dd_3) rfl
  obtain ⟨fd4, F4⟩ := c.def_ 4 (d := dd_4) rfl
  obtain ⟨fd5, F5⟩ := c.def_ 5 (d := dd_5) rfl
  obtain ⟨fd6, F6⟩ := c.def_ 6 (d := dd_6) rfl
  obtain ⟨fd7, F7⟩ := c.def_ 7 (d := dd_7) rfl
  have B : Fr mg := ⟨He.free_ok KX G (c.fact 0 (f := .free "ValueError") rfl), He.free_ok KX G (c.fact 1 (f := .free "bool") rfl), He.free_ok KX G (c.fact 2 (f := .free "int") rfl), He.free_ok KX G (c.fact 3 (f := .free "isinstance") rfl), He.free_ok KX G (c.fact 4 (f := .free "len") rfl), He.free_ok KX G (c.fact 5 (f := .free "range") rfl), He.free_ok KX G (c.fact 6 (f := .free "tuple") rfl)⟩
  have g_Bare := He.glo_ok KX G (c.fact 14 (f := .glo "Bare") rfl)
  have g_Known := He.glo_ok KX G (c.fact 15 (f := .glo "Known") rfl)
  have g_NoDeed := He.glo_ok KX G (c.fact 16 (f := .glo "NoDeed") rfl)
  have g_NoName := He.glo_ok KX G (c.fact 17 (f := .glo "NoName") rfl)
  have g_NoText := He.glo_ok KX G (c.fact 18 (f := .glo "NoText") rfl)
  have g_NoTime := He.glo_ok KX G (c.fact 19 (f := .glo "NoTime") rfl)
  have g_PastError := He.glo_ok KX G (c.fact 20 (f := .glo "PastError") rfl)
  have g_Taken := He.glo_ok KX G (c.fact 21 (f := .glo "Taken") rfl)
  have g_Undone := He.glo_ok KX G (c.fact 22 (f := .glo "Undone") rfl)
  have xf_at : Xff K "at" ["Undone"] := .cons (List.all_eq_true.mp ce (.xfd "Undone" "at") (List.mem_of_getElem? (i := 1) rfl)) (.nil)
  have xf_deed : Xff K "deed" ["Undone"] := .cons (List.all_eq_true.mp ce (.xfd "Undone" "deed") (List.mem_of_getElem? (i := 2) rfl)) (.nil)
  have i_Bare : Xi K "Bare" ["Undone"] isx := .cons (b := false) (List.all_eq_true.mp ce (.exis "Undone") (List.mem_of_getElem? (i := 3) rfl)) (List.all_eq_true.mp ce (.kitC "Undone" "Bare" false) (List.mem_of_getElem? (i := 4) rfl)) (by decide +kernel) (.nil)
  have i_Known : Xi K "Known" ["Undone"] isx := .cons (b := false) (List.all_eq_true.mp ce (.exis "Undone") (List.mem_of_getElem? (i := 3) rfl)) (List.all_eq_true.mp ce (.kitC "Undone" "Known" false) (List.mem_of_getElem? (i := 5) rfl)) (by decide +kernel) (.nil)
  have i_NoDeed : Xi K "NoDeed" ["Undone"] isx := .cons (b := false) (List.all_eq_true.mp ce (.exis "Undone") (List.mem_of_getElem? (i := 3) rfl)) (List.all_eq_true.mp ce (.kitC "Undone" "NoDeed" false) (List.mem_of_getElem? (i := 6) rfl)) (by decide +kernel) (.nil)
  have i_NoName : Xi K "NoName" ["Undone"] isx := .cons (b := false) (List.all_eq_true.mp ce (.exis "Undone") (List.mem_of_getElem? (i := 3) rfl)) (List.all_eq_true.mp ce (.kitC "Undone" "NoName" false) (List.mem_of_getElem? (i := 7) rfl)) (by decide +kernel) (.nil)
  have i_NoText : Xi K "NoText" ["Undone"] isx := .cons (b := false) (List.all_eq_true.mp ce (.exis "Undone") (List.mem_of_getElem? (i := 3) rfl)) (List.all_eq_true.mp ce (.kitC "Undone" "NoText" false) (List.mem_of_getElem? (i := 8) rfl)) (by decide +kernel) (.nil)
  have i_NoTime : Xi K "NoTime" ["Undone"] isx := .cons (b := false) (List.all_eq_true.mp ce (.exis "Undone") (List.mem_of_getElem? (i := 3) rfl)) (List.all_eq_true.mp ce (.kitC "Undone" "NoTime" false) (List.mem_of_getElem? (i := 9) rfl)) (by decide +kernel) (.nil)
  have i_PastError : Xi K "PastError" ["Undone"] isx := .cons (b := true) (List.all_eq_true.mp ce (.exis "Undone") (List.mem_of_getElem? (i := 3) rfl)) (List.all_eq_true.mp ce (.kitC "Undone" "PastError" true) (List.mem_of_getElem? (i := 10) rfl)) (by decide +kernel) (.nil)
  have i_Taken : Xi K "Taken" ["Undone"] isx := .cons (b := false) (List.all_eq_true.mp ce (.exis "Undone") (List.mem_of_getElem? (i := 3) rfl)) (List.all_eq_true.mp ce (.kitC "Undone" "Taken" false) (List.mem_of_getElem? (i := 11) rfl)) (by decide +kernel) (.nil)
  have i_Undone : Xi K "Undone" ["Undone"] isx := .cons (b := true) (List.all_eq_true.mp ce (.exis "Undone") (List.mem_of_getElem? (i := 3) rfl)) (List.all_eq_true.mp ce (.kitC "Undone" "Undone" true) (List.mem_of_getElem? (i := 12) rfl)) (by decide +kernel) (.nil)
  have it_ValueError : Xit K "ValueError" ["Undone"] true := .cons (List.all_eq_true.mp ce (.exis "Undone") (List.mem_of_getElem? (i := 3) rfl)) (List.all_eq_true.mp ce (.kitT "Undone" "ValueError" true) (List.mem_of_getElem? (i := 13) rfl)) (.nil)
  have y_PastError : Xm K "PastError" ["Undone"] true := .cons (of_decide_eq_true (c.fact 23 (f := .exm "Undone" "PastError" true) rfl)) (.nil)
  have n_PastError : Xm K "PastError" [] false := .nil
  have y_Undone : Xm K "Undone" ["Undone"] true := .cons (of_decide_eq_true (c.fact 24 (f := .exm "Undone" "Undone" true) rfl)) (.nil)
  have n_Undone : Xm K "Undone" [] false := .nil
  have gl := He.glo_ok KX G (c.fact 13 (f := .glo "law") rfl)
  refine PD.law_end (st := top 17) KX F6 hfa gl (fun _ _ _ _ _ _ us hl => match us, hl with | [_], _ => rfl) (fun base _ _ => ?_) pure_
  have h_m_law_deed := ok_m_law_deed (P := P) (w := w) (base := base) B  F0 (He.glo_ok KX G (c.fact 7 (f := .glo "_law_deed") rfl))
  have h_m_law_whole := ok_m_law_whole (P := P) (w := w) (base := base) B  F1 (He.glo_ok KX G (c.fact 8 (f := .glo "_law_whole") rfl))
  have h_m_law_bears := ok_m_law_bears (P := P) (w := w) (base := base) B h_m_law_whole xf_at xf_deed F2 (He.glo_ok KX G (c.fact 9 (f := .glo "_law_bears") rfl))
  have h_m_law_alone := ok_m_law_alone (P := P) (w := w) (base := base) B g_Bare g_Known g_NoDeed g_NoName g_NoText g_NoTime g_PastError g_Taken i_Bare i_Known i_NoDeed i_NoName i_NoText i_NoTime i_PastError i_Taken it_ValueError F3 (He.glo_ok KX G (c.fact 10 (f := .glo "_law_alone") rfl))
  have o_Undone : Og P w K mg base "Undone" "at" "deed" := og_undone (He.glo_ok KX G (c.fact 22 (f := .glo "Undone") rfl)) (He.glo_ok KX G (c.fact 20 (f := .glo "PastError") rfl)) (oex_ok (List.mem_of_getElem? (i := 0) rfl |> List.all_eq_true.mp ce (.oex "Undone" "PastError" "at" "deed"))) sc_oex_Undone F7 (F7.bindsN fun _ _ _ _ _ _ us hl => match us, hl with | [_, _, _], _ => rfl) (fun _ _ _ _ _ _ _ => rfl) (fun _ _ _ _ _ _ _ => ⟨_, rfl⟩)
  have h_m_law_by_name := ok_m_law_by_name (P := P) (w := w) (base := base) B h_m_law_alone h_m_law_bears g_Undone o_Undone y_Undone n_Undone F4 (He.glo_ok KX G (c.fact 11 (f := .glo "_law_by_name") rfl))
  have h_m_law_by_base := ok_m_law_by_base (P := P) (w := w) (base := base) B h_m_law_bears g_PastError g_Undone o_Undone i_Undone y_PastError n_PastError F5 (He.glo_ok KX G (c.fact 12 (f := .glo "_law_by_base") rfl))
  exact ok_m_law B h_m_law_alone h_m_law_bears h_m_law_by_base h_m_law_by_name h_m_law_deed o_Undone F6
end LW

open PySem PySem.W PySem.Calls PyProof.Rows
theorem PySem.Challenge.cw_pastdesk_k02_undone_told_holds : PySem.Challenge.rw_pastdesk_k02_undone_told.Holds := by
  w_on; o_law
  refine HandSHeadRun.head_any (r := OpenLaw.row PySem.Challenge.rw_pastdesk_k02_undone_told) (q := view (OpenLaw.row PySem.Challenge.rw_pastdesk_k02_undone_told).prog [17]) (H := HW.hk) (ob := HW.ob) (M := 60000) (loose := HW.loose) (d := HandSHeadRun.topDef (OpenLaw.row PySem.Challenge.rw_pastdesk_k02_undone_told).prog 17) (kwd := []) HW.ob_eq
    (by kernel_rfl) (fun s => by kernel_rfl) HW.run_ (by kernel_rfl) (by kernel_rfl) (by kernel_rfl) (by rfl) (by first | assumption | decide +kernel) (by decide +kernel) ⟨rfl, rfl, rfl, rfl, rfl, by decide +kernel⟩ ?hw ?hc
  case hw => w_witness2
  case hc =>
    refine L2.walk_ofE (l := PySem.Challenge.rw_pastdesk_k02_undone_told) (n := 63) (k := 4) (x := "_law_script") (CX := L2.CX0) rfl (by decide) (by kernel_rfl) ⟨rfl, by decide, by decide⟩ ?F (fun _ _ _ _ z => z)
    intro w mg fa h Y G hmg0
    obtain ⟨K, KX, c, ce⟩ := Y
    have hmg : mg ("law" : PySem.Str) = some (.ref fa) := by
      have e : (HandSHeadRun.topDef (OpenLaw.row PySem.Challenge.rw_pastdesk_k02_undone_told).prog 17).name = ("law" : PySem.Str) := by kernel_rfl
      rw [← e]
      exact hmg0
    exact LW.facts (P := (PySem.Challenge.rw_pastdesk_k02_undone_told).prog) (w := w) KX G hmg c ce LW.law_true
