import PyProof.Rows.All
import Wide.All
import OpenK.AllK
import Wide.FinOn
import HandS.ForMost
import HandS.ForExc
import HandS.Wide
import HandS.TupMul
import HandS.TupAny
import HandS.Style
import HandS.IsInst
import HandS.Conv
import HandS.More
import HandS.Rev
import HandS.Zip
import HandS.SortInts
import HandS.HeadEnd
import HandS.Defaults
import HandS.Head0
import HandS.Head1
import HandS.Head2
import HandS.HeadHook1
import HandS.HeadHook2
import PyProof.ListStr
import PySem.Challenge.RW_pastewright_k06_rows_filled_and_substitu
set_option Elab.async false
set_option linter.all false
set_option maxRecDepth 100000
set_option maxHeartbeats 4000000
/-! DL: values as trees over the hand layer. -/
namespace DL
open PySem PySem.Spec PyProof.Rows L2

/-! ### data -/
inductive D where
  | non | bl (b : Bool) | int (i : Int) | str (s : List Nat)
  | tup (xs : List D) | lst (xs : List D) | rol (xs : List D)
  | obj (c : Str) (fs : List (Str × D))
  | dk (kvs : List (Key × D)) | dt (kvs : List (List Key × D))
  | loc (n : Nat) | ty (n : String)
instance : Inhabited D := ⟨.non⟩
/-- what may be changed -/
inductive Con where
  | lst (ds : List D) | dk (kvs : List (Key × D)) | dt (kvs : List (List Key × D)) | obj (c : Str) (fs : List (Str × D))
/-- a slot's value: frozen, or owned by the slot -/
inductive SV where
  | fz (d : D) | ow (c : Con)
abbrev DEnv := List (Option SV)
abbrev Sto := List (Option Con)
/-- an expression's value: frozen, new and owned by nobody, or what slot i owns -/
inductive Rv where
  | fz (d : D) | ow (c : Con) | vw (i : Nat)
structure Exn where
  cls : Str
  fs : List (Str × D)
inductive Res (α : Type) where
  | ok (a : α) | ex (x : Exn)
abbrev M (α : Type) := Sto → Option (Res α × Sto)
def ret {α : Type} (a : α) : M α := fun st => some (.ok a, st)
def fail {α : Type} : M α := fun _ => none
def bnd {α β : Type} (m : M α) (k : α → M β) : M β := fun st => match m st with
  | none => none
  | some (.ok a, st') => k a st'
  | some (.ex x, st') => some (.ex x, st')

/-- the written part and the module's names -/
structure GG where
  K : PySem.W.Frag
  mg : Str → Option Value

mutual
inductive Rep (g : GG) (F : Hp) (ρ : List Addr) : D → V → Prop
  | non : Rep g F ρ .non .non
  | bl {b : Bool} : Rep g F ρ (.bl b) (.bl b)
  | int {i : Int} : Rep g F ρ (.int i) (.int i)
  | str {s : List Nat} : Rep g F ρ (.str s) (.str ⟨s.toArray⟩)
  | tup {a : Addr} {vs : List V} {ds : List D} : SqT g.K F a vs → Reps g F ρ ds vs → Rep g F ρ (.tup ds) (.ref a)
  | lst {a : Addr} {vs : List V} {ds : List D} : F a = some (.lst vs) → Reps g F ρ ds vs → Rep g F ρ (.lst ds) (.ref a)
  | rol {a : Addr} {vs : List V} {ds : List D} : SqL g.K F a vs → Reps g F ρ ds vs → Rep g F ρ (.rol ds) (.ref a)
  | loc {n : Nat} {a : Addr} : ρ[n]? = some a → Rep g F ρ (.loc n) (.ref a)
  | ty {n : String} : Rep g F ρ (.ty n) (.ty n)
  | obj {c : Str} {C a dx : Addr} {fs : List (Str × D)} {fvs : List (Str × V)} : g.mg c = some (.ref C) → F a = some (.ins C dx fvs) →
      fs.map Prod.fst = fvs.map Prod.fst → Reps g F ρ (fs.map Prod.snd) (fvs.map Prod.snd) → Rep g F ρ (.obj c fs) (.ref a)
  | dk {a : Addr} {kvs : List (Key × D)} {kvv : List (Key × V)} : F a = some (.dK kvv) → kvs.map Prod.fst = kvv.map Prod.fst → Reps g F ρ (kvs.map Prod.snd) (kvv.map Prod.snd) → Rep g F ρ (.dk kvs) (.ref a)
  | dt {a : Addr} {kvs : List (List Key × D)} {kvv : List (List Key × V)} : F a = some (.dT kvv) → kvs.map Prod.fst = kvv.map Prod.fst → Reps g F ρ (kvs.map Prod.snd) (kvv.map Prod.snd) → Rep g F ρ (.dt kvs) (.ref a)
inductive Reps (g : GG) (F : Hp) (ρ : List Addr) : List D → List V → Prop
  | nil : Reps g F ρ [] []
  | cons {d : D} {v : V} {ds : List D} {vs : List V} : Rep g F ρ d v → Reps g F ρ ds vs → Reps g F ρ (d :: ds) (v :: vs)
end

section
variable {g : GG} {F F' : Hp} {ρ ρ' : List Addr}
theorem Same.sqT {K : PySem.W.Frag} {H H' : Hp} {a : Addr} {xs : List V} (e : Same H H') (h : SqT K H a xs) : SqT K H' a xs := by
  rcases h with (h | ⟨o, h⟩) | h
  · exact .inl (.inl (e _ _ h))
  · exact .inl (.inr ⟨o, e _ _ h⟩)
  · exact .inr h
mutual
theorem Rep.mono (e : Same F F') (p : ∃ l, ρ' = ρ ++ l) : ∀ {d : D} {v : V}, Rep g F ρ d v → Rep g F' ρ' d v
  | _, _, .non => .non
  | _, _, .bl => .bl
  | _, _, .int => .int
  | _, _, .str => .str
  | _, _, .ty => .ty
  | _, _, .tup h r => .tup (Same.sqT e h) (Reps.mono e p r)
  | _, _, .lst h r => .lst (e _ _ h) (Reps.mono e p r)
  | _, _, .rol h r => .rol (Same.seq e h) (Reps.mono e p r)
  | _, _, .loc h => .loc (by
      obtain ⟨l, rfl⟩ := p
      rw [List.getElem?_append_left]
      · exact h
      · exact (List.getElem?_eq_some_iff.mp h).1)
  | _, _, .obj h1 h2 h4 r => .obj h1 (e _ _ h2) h4 (Reps.mono e p r)
  | _, _, .dk h2 h4 r => .dk (e _ _ h2) h4 (Reps.mono e p r)
  | _, _, .dt h2 h4 r => .dt (e _ _ h2) h4 (Reps.mono e p r)
theorem Reps.mono (e : Same F F') (p : ∃ l, ρ' = ρ ++ l) : ∀ {ds : List D} {vs : List V}, Reps g F ρ ds vs → Reps g F' ρ' ds vs
  | _, _, .nil => .nil
  | _, _, .cons r t => .cons (Rep.mono e p r) (Reps.mono e p t)
end
theorem Reps.length : ∀ {ds : List D} {vs : List V}, Reps g F ρ ds vs → ds.length = vs.length
  | _, _, .nil => rfl
  | _, _, .cons _ t => congrArg (· + 1) (Reps.length t)
theorem Reps.get : ∀ {ds : List D} {vs : List V} {i : Nat} {d : D}, Reps g F ρ ds vs → ds[i]? = some d → ∃ v, vs[i]? = some v ∧ Rep g F ρ d v
  | _, _, _, _, .nil, e => by simp at e
  | _, _, 0, _, .cons r _, e => by simp at e; subst e; exact ⟨_, rfl, r⟩
  | _, _, i + 1, d, .cons _ t, e => by
    obtain ⟨v, h1, h2⟩ := Reps.get (i := i) t (by simpa using e)
    exact ⟨v, by simpa using h1, h2⟩
theorem Reps.getV {ds : List D} {vs : List V} {i : Nat} {v : V} (r : Reps g F ρ ds vs) (e : vs[i]? = some v) : ∃ d, ds[i]? = some d ∧ Rep g F ρ d v := by
  have hi : i < ds.length := by rw [r.length]; exact (List.getElem?_eq_some_iff.mp e).1
  obtain ⟨v', h1, h2⟩ := r.get (List.getElem?_eq_getElem hi)
  rw [e] at h1; cases h1
  exact ⟨_, List.getElem?_eq_getElem hi, h2⟩
theorem Reps.append : ∀ {ds es : List D} {vs ws : List V}, Reps g F ρ ds vs → Reps g F ρ es ws → Reps g F ρ (ds ++ es) (vs ++ ws)
  | _, _, _, _, .nil, s => s
  | _, _, _, _, .cons r t, s => .cons r (Reps.append t s)
theorem Reps.take : ∀ {ds : List D} {vs : List V} (n : Nat), Reps g F ρ ds vs → Reps g F ρ (ds.take n) (vs.take n)
  | _, _, 0, _ => .nil
  | _, _, _ + 1, .nil => .nil
  | _, _, n + 1, .cons r t => .cons r (Reps.take n t)
theorem Reps.drop : ∀ {ds : List D} {vs : List V} (n : Nat), Reps g F ρ ds vs → Reps g F ρ (ds.drop n) (vs.drop n)
  | _, _, 0, r => r
  | _, _, _ + 1, .nil => .nil
  | _, _, n + 1, .cons _ t => Reps.drop n t
theorem Reps.set {d : D} {v : V} (r : Rep g F ρ d v) : ∀ {ds : List D} {vs : List V} (i : Nat), Reps g F ρ ds vs → Reps g F ρ (ds.set i d) (vs.set i v)
  | _, _, _, .nil => .nil
  | _, _, 0, .cons _ t => .cons r t
  | _, _, i + 1, .cons q t => .cons q (Reps.set r i t)
theorem Reps.reverse : ∀ {ds : List D} {vs : List V}, Reps g F ρ ds vs → Reps g F ρ ds.reverse vs.reverse
  | _, _, .nil => .nil
  | _, _, .cons r t => by rw [List.reverse_cons, List.reverse_cons]; exact (Reps.reverse t).append (.cons r .nil)
theorem Reps.eraseIdx : ∀ {ds : List D} {vs : List V} (i : Nat), Reps g F ρ ds vs → Reps g F ρ (ds.eraseIdx i) (vs.eraseIdx i)
  | _, _, _, .nil => .nil
  | _, _, 0, .cons _ t => t
  | _, _, i + 1, .cons r t => .cons r (Reps.eraseIdx i t)
theorem Reps.inserted {d : D} {v : V} (r : Rep g F ρ d v) (n : Nat) {ds : List D} {vs : List V} (h : Reps g F ρ ds vs) : Reps g F ρ (ds.take n ++ d :: ds.drop n) (vs.take n ++ v :: vs.drop n) :=
  (h.take n).append (.cons r (h.drop n))
theorem Reps.rep {ds : List D} {vs : List V} (h : Reps g F ρ ds vs) : ∀ k : Nat, Reps g F ρ (List.replicate k ds).flatten (List.replicate k vs).flatten
  | 0 => .nil
  | k + 1 => by rw [List.replicate_succ, List.replicate_succ, List.flatten_cons, List.flatten_cons]; exact h.append (h.rep k)
theorem Reps.ints : ∀ {ns : List Int} {vs : List V}, Reps g F ρ (ns.map D.int) vs → vs = ns.map V.int
  | [], _, .nil => rfl
  | n :: ns, _, .cons .int t => by rw [Reps.ints t]; rfl
theorem Reps.of_ints : ∀ ns : List Int, Reps g F ρ (ns.map D.int) (ns.map V.int)
  | [] => .nil
  | n :: ns => .cons .int (Reps.of_ints ns)
theorem Reps.strs : ∀ {ns : List (List Nat)} {vs : List V}, Reps g F ρ (ns.map D.str) vs → vs = (ns.map fun s => (⟨s.toArray⟩ : Str)).map V.str
  | [], _, .nil => rfl
  | n :: ns, _, .cons .str t => by rw [Reps.strs t]; rfl
theorem Reps.of_strs : ∀ ns : List (List Nat), Reps g F ρ (ns.map D.str) ((ns.map fun s => (⟨s.toArray⟩ : Str)).map V.str)
  | [] => .nil
  | n :: ns => .cons .str (Reps.of_strs ns)
theorem Reps.bls : ∀ {ns : List Bool} {vs : List V}, Reps g F ρ (ns.map D.bl) vs → vs = ns.map V.bl
  | [], _, .nil => rfl
  | n :: ns, _, .cons .bl t => by rw [Reps.bls t]; rfl
theorem Rep.int_v {i : Int} {v : V} (r : Rep g F ρ (.int i) v) : v = .int i := by cases r; rfl
theorem Rep.bl_v {b : Bool} {v : V} (r : Rep g F ρ (.bl b) v) : v = .bl b := by cases r; rfl
theorem Rep.non_v {v : V} (r : Rep g F ρ .non v) : v = .non := by cases r; rfl
theorem Rep.str_v {s : List Nat} {v : V} (r : Rep g F ρ (.str s) v) : v = .str ⟨s.toArray⟩ := by cases r; rfl
theorem Rep.tup_v {ds : List D} {v : V} (r : Rep g F ρ (.tup ds) v) : ∃ a vs, v = .ref a ∧ SqT g.K F a vs ∧ Reps g F ρ ds vs := by cases r; exact ⟨_, _, rfl, by assumption, by assumption⟩
theorem Rep.lst_v {ds : List D} {v : V} (r : Rep g F ρ (.lst ds) v) : ∃ a vs, v = .ref a ∧ F a = some (.lst vs) ∧ Reps g F ρ ds vs := by cases r; exact ⟨_, _, rfl, by assumption, by assumption⟩
end

/-! ### from one state to a later one -/
structure After (ρ : List Addr) (F H : Hp) (ρ' : List Addr) (F' H' : Hp) : Prop where
  ff : Same F F'
  fn : ∀ a o, F' a = some o → F a = none → H a = none ∨ a ∈ ρ
  pre : ∃ l, ρ' = ρ ++ l ∧ ∀ a ∈ l, H a = none ∧ a ∉ ρ
  hk : ∀ a o, H a = some o → a ∉ ρ → H' a = some o
section
variable {ρ ρ1 ρ2 : List Addr} {F H F1 H1 F2 H2 : Hp}
theorem After.refl : After ρ F H ρ F H := ⟨Same.refl F, fun a o h1 h2 => by (rw [h1] at h2; cases h2), ⟨[], by simp, fun _ h => absurd h (by simp)⟩, fun _ _ h _ => h⟩
theorem After.mem (a : After ρ F H ρ1 F1 H1) {x : Addr} (h : x ∈ ρ) : x ∈ ρ1 := by
  obtain ⟨l, rfl, _⟩ := a.pre
  exact List.mem_append_left _ h
theorem After.nmem (a : After ρ F H ρ1 F1 H1) {x : Addr} {o : HO} (h : x ∉ ρ) (e : H x = some o) : x ∉ ρ1 := by
  obtain ⟨l, rfl, q⟩ := a.pre
  intro z
  rcases List.mem_append.mp z with z | z
  · exact h z
  · rw [(q x z).1] at e; cases e
theorem After.back (a : After ρ F H ρ1 F1 H1) {x : Addr} (h : x ∉ ρ) (e : H1 x = none) : H x = none := by
  cases q : H x with
  | none => rfl
  | some o => rw [a.hk x o q h] at e; cases e
theorem After.trans (a : After ρ F H ρ1 F1 H1) (b : After ρ1 F1 H1 ρ2 F2 H2) : After ρ F H ρ2 F2 H2 := by
  obtain ⟨l1, e1, p1⟩ := a.pre
  obtain ⟨l2, e2, p2⟩ := b.pre
  refine ⟨a.ff.trans b.ff, fun x o h2 h0 => ?_, ⟨l1 ++ l2, by rw [e2, e1, List.append_assoc], fun x hx => ?_⟩, fun x o h n => b.hk x o (a.hk x o h n) (a.nmem n h)⟩
  · by_cases hx : x ∈ ρ
    · exact .inr hx
    · refine .inl ?_
      cases q : F1 x with
      | some o1 =>
        rcases a.fn x o1 q h0 with z | z
        · exact z
        · exact absurd z hx
      | none =>
        rcases b.fn x o h2 q with z | z
        · exact a.back hx z
        · rw [e1] at z
          rcases List.mem_append.mp z with z | z
          · exact absurd z hx
          · exact (p1 x z).1
  · rcases List.mem_append.mp hx with z | z
    · exact p1 x z
    · obtain ⟨q1, q2⟩ := p2 x z
      have n : x ∉ ρ := fun w => q2 (a.mem w)
      exact ⟨a.back n q1, n⟩
theorem After.ex (a : After ρ F H ρ1 F1 H1) : ∃ l, ρ1 = ρ ++ l := let ⟨l, e, _⟩ := a.pre; ⟨l, e⟩
/-- what is not frozen and stands stays unfrozen -/
theorem After.unf (a : After ρ F H ρ1 F1 H1) {x : Addr} {o : HO} (h : H x = some o) (n : x ∉ ρ) (f : F x = none) : F1 x = none := by
  cases q : F1 x with
  | none => rfl
  | some u =>
    rcases a.fn x u q f with z | z
    · rw [h] at z; cases z
    · exact absurd z n
end

/-! ### contents, slots, cells -/
def ConOk (g : GG) (F : Hp) (ρ : List Addr) (H : Hp) (a : Addr) : Con → Prop
  | .lst ds => ∃ vs, H a = some (.lst vs) ∧ Reps g F ρ ds vs
  | .dk kvs => ∃ kvv, H a = some (.dK kvv) ∧ kvs.map Prod.fst = kvv.map Prod.fst ∧ Reps g F ρ (kvs.map Prod.snd) (kvv.map Prod.snd)
  | .dt kvs => ∃ kvv, H a = some (.dT kvv) ∧ kvs.map Prod.fst = kvv.map Prod.fst ∧ Reps g F ρ (kvs.map Prod.snd) (kvv.map Prod.snd)
  | .obj c fs => ∃ C dx fvs, g.mg c = some (.ref C) ∧ H a = some (.ins C dx fvs) ∧ fs.map Prod.fst = fvs.map Prod.fst ∧ Reps g F ρ (fs.map Prod.snd) (fvs.map Prod.snd)
section
variable {g : GG} {F F' H H' : Hp} {ρ ρ' : List Addr} {a : Addr} {c : Con}
theorem ConOk.there (h : ConOk g F ρ H a c) : ∃ o, H a = some o := by
  cases c with
  | lst ds => obtain ⟨vs, e, _⟩ := h; exact ⟨_, e⟩
  | dk kvs => obtain ⟨vs, e, _⟩ := h; exact ⟨_, e⟩
  | dt kvs => obtain ⟨vs, e, _⟩ := h; exact ⟨_, e⟩
  | obj c fs => obtain ⟨C, dx, fvs, _, e, _⟩ := h; exact ⟨_, e⟩
/-- the content where the object is kept -/
theorem ConOk.kept (h : ConOk g F ρ H a c) (e : Same F F') (p : ∃ l, ρ' = ρ ++ l) (k : ∀ o, H a = some o → H' a = some o) : ConOk g F' ρ' H' a c := by
  cases c with
  | lst ds => obtain ⟨vs, h1, r⟩ := h; exact ⟨vs, k _ h1, r.mono e p⟩
  | dk kvs => obtain ⟨vs, h1, h2, r⟩ := h; exact ⟨vs, k _ h1, h2, r.mono e p⟩
  | dt kvs => obtain ⟨vs, h1, h2, r⟩ := h; exact ⟨vs, k _ h1, h2, r.mono e p⟩
  | obj c fs =>
    obtain ⟨C, dx, fvs, h0, h1, h4, r⟩ := h
    exact ⟨C, dx, fvs, h0, k _ h1, h4, r.mono e p⟩
theorem ConOk.mono (h : ConOk g F ρ H a c) (n : a ∉ ρ) (A : After ρ F H ρ' F' H') : ConOk g F' ρ' H' a c :=
  h.kept A.ff A.ex fun o e => A.hk a o e n
end

def SlotOk (g : GG) (H0 F : Hp) (ρ : List Addr) (H : Hp) : SV → V → Prop
  | .fz d, v => Rep g F ρ d v
  | .ow c, v => ∃ a, v = .ref a ∧ F a = none ∧ a ∉ ρ ∧ H0 a = none ∧ ConOk g F ρ H a c
structure StoOk (g : GG) (F : Hp) (ρ : List Addr) (st : Sto) (H : Hp) : Prop where
  len : ρ.length = st.length
  nd : ρ.Nodup
  there : ∀ a ∈ ρ, ∃ o, H a = some o
  live : ∀ (n : Nat) (c : Con), st[n]? = some (some c) → ∃ a, ρ[n]? = some a ∧ F a = none ∧ ConOk g F ρ H a c
/-- the state of a body: H0 the heap at its entry -/
structure St0 (g : GG) (H0 F : Hp) (ρ : List Addr) (δ : DEnv) (st : Sto) (σ : L2.St) (H : Hp) : Prop where
  fs : Same F H
  len : σ.length = δ.length
  slot : ∀ (i : Nat) (sv : SV), δ[i]? = some (some sv) → ∃ v, σ[i]? = some (some v) ∧ SlotOk g H0 F ρ H sv v
  dist : ∀ (i j : Nat) (a : Addr) (ci cj : Con), δ[i]? = some (some (.ow ci)) → δ[j]? = some (some (.ow cj)) → σ[i]? = some (some (.ref a)) → σ[j]? = some (some (.ref a)) → i = j
  sto : StoOk g F ρ st H
/-- a value of an expression that began at H1 -/
def RepR (g : GG) (F : Hp) (ρ : List Addr) (δ : DEnv) (σ : L2.St) (H1 H : Hp) : Rv → V → Prop
  | .fz d, v => Rep g F ρ d v
  | .ow c, v => ∃ a, v = .ref a ∧ F a = none ∧ a ∉ ρ ∧ H1 a = none ∧ ConOk g F ρ H a c
  | .vw i, v => σ[i]? = some (some v) ∧ ∃ c, δ[i]? = some (some (.ow c))
/-- an exception's data -/
def RepX (g : GG) (F : Hp) (ρ : List Addr) (H : Hp) (x : Exn) (c : Value) (d : Option Addr) : Prop :=
  ∃ C dx fvs, g.mg x.cls = some (.ref C) ∧ c = .ref C ∧ d = some dx ∧ H dx = some (.xd fvs) ∧ x.fs.map Prod.fst = fvs.map Prod.fst ∧ Reps g F ρ (x.fs.map Prod.snd) (fvs.map Prod.snd)

section
variable {g : GG} {H0 F F' H H' H1 : Hp} {ρ ρ' : List Addr} {δ : DEnv} {σ : L2.St} {st st' : Sto} {r : Rv} {v : V}
theorem RepR.mono (h : RepR g F ρ δ σ H1 H r v) (A : After ρ F H ρ' F' H') : RepR g F' ρ' δ σ H1 H' r v := by
  cases r with
  | fz d => exact Rep.mono A.ff A.ex h
  | ow c =>
    obtain ⟨a, e, f, n, z, k⟩ := h
    obtain ⟨o, ho⟩ := k.there
    exact ⟨a, e, A.unf ho n f, A.nmem n ho, z, k.mono n A⟩
  | vw i => exact h
/-- fresh at a later state, fresh at an earlier one -/
theorem RepR.earlier {ρ0 : List Addr} {F0 HH : Hp} (h : RepR g F' ρ' δ σ H1 H' r v) (A : After ρ0 F0 HH ρ F H1) (p : ∃ l, ρ' = ρ ++ l) : RepR g F' ρ' δ σ HH H' r v := by
  cases r with
  | fz d => exact h
  | ow c =>
    obtain ⟨a, e, f, n, z, k⟩ := h
    refine ⟨a, e, f, n, A.back ?_ z, k⟩
    intro q
    obtain ⟨l, hl⟩ := p
    exact n (by rw [hl]; exact List.mem_append_left _ (A.mem q))
  | vw i => exact h
end

/-- the heap grows, nothing is changed -/
structure Ext (F H F' H' : Hp) : Prop where
  ff : Same F F'
  hh : Same H H'
  fn : ∀ a o, F' a = some o → F a = none → H a = none
  fs : Same F' H'
section
variable {g : GG} {H0 F F' H H' H1 : Hp} {ρ ρ' : List Addr} {δ : DEnv} {σ : L2.St} {st st' : Sto} {r : Rv} {v : V}
theorem Ext.after (e : Ext F H F' H') : After ρ F H ρ F' H' := ⟨e.ff, fun a o h1 h2 => .inl (e.fn a o h1 h2), ⟨[], by simp, fun _ h => absurd h (by simp)⟩, fun a o h _ => e.hh a o h⟩
theorem Ext.refl (h : Same F H) : Ext F H F H := ⟨Same.refl _, Same.refl _, fun a o h1 h2 => by (rw [h1] at h2; cases h2), h⟩
theorem ConOk.ext {a : Addr} {c : Con} (h : ConOk g F ρ H a c) (e : Ext F H F' H') : ConOk g F' ρ H' a c :=
  h.kept e.ff ⟨[], by simp⟩ fun o q => e.hh _ _ q
theorem StoOk.ext (h : StoOk g F ρ st H) (e : Ext F H F' H') : StoOk g F' ρ st H' := by
  refine ⟨h.len, h.nd, fun a ha => (h.there a ha).imp fun o q => e.hh _ _ q, fun n c q => ?_⟩
  obtain ⟨a, h1, h2, h3⟩ := h.live n c q
  obtain ⟨o, ho⟩ := h3.there
  refine ⟨a, h1, ?_, h3.ext e⟩
  cases z : F' a with
  | none => rfl
  | some u => rw [e.fn a u z h2] at ho; cases ho
theorem St0.ext (h : St0 g H0 F ρ δ st σ H) (e : Ext F H F' H') : St0 g H0 F' ρ δ st σ H' := by
  refine ⟨e.fs, h.len, fun i sv q => ?_, h.dist, h.sto.ext e⟩
  obtain ⟨v, h1, h2⟩ := h.slot i sv q
  refine ⟨v, h1, ?_⟩
  cases sv with
  | fz d => exact Rep.mono e.ff ⟨[], by simp⟩ h2
  | ow c =>
    obtain ⟨a, e1, e2, e3, e4, e5⟩ := h2
    obtain ⟨o, ho⟩ := e5.there
    refine ⟨a, e1, ?_, e3, e4, e5.ext e⟩
    cases z : F' a with
    | none => rfl
    | some u => rw [e.fn a u z e2] at ho; cases ho
theorem ext_new {p : Addr} {o : HO} (h : Same F H) (np : H p = none) : Ext F H F (upd H p o) := by
  have hh : Same H (upd H p o) := fun b u e => by rw [upd_ne (ne_of_none e np)]; exact e
  exact ⟨Same.refl _, hh, fun a o h1 h2 => by (rw [h1] at h2; cases h2), h.trans hh⟩
theorem ext_frz {p : Addr} {o : HO} (h : Same F H) (np : H p = none) : Ext F H (upd F p o) (upd H p o) := by
  have hh : Same H (upd H p o) := fun b u e => by rw [upd_ne (ne_of_none e np)]; exact e
  have nf : F p = none := h.free np
  have hf : Same F (upd F p o) := fun b u e => by rw [upd_ne (ne_of_none e nf)]; exact e
  refine ⟨hf, hh, fun a u h1 h2 => ?_, fun b u e => ?_⟩
  · by_cases z : a = p
    · rw [z]; exact np
    · rw [upd_ne z] at h1; rw [h1] at h2; cases h2
  · by_cases z : b = p
    · subst z; rw [upd_same] at e ⊢; exact e
    · rw [upd_ne z] at e ⊢; exact h b u e
end

/-! ### readings of expressions -/
def PostE (g : GG) (W : WX) (H0 F : Hp) (ρ : List Addr) (δ : DEnv) (σ : L2.St) (H : Hp) (o : Option (Res Rv × Sto)) (Q : VK) : Prop := match o with
  | none => False
  | some (.ok r, st') => ∀ v ρ' F' H', After ρ F H ρ' F' H' → St0 g H0 F' ρ' δ st' σ H' → RepR g F' ρ' δ σ H H' r v → Q v H'
  | some (.ex x, st') => ∀ c d ρ' F' H', After ρ F H ρ' F' H' → St0 g H0 F' ρ' δ st' σ H' → RepX g F' ρ' H' x c d → W c d σ H'
def rdE (g : GG) (W : WX) (ge : DEnv → M Rv) : TE := fun σ H Q => ∃ H0 F ρ δ st, St0 g H0 F ρ δ st σ H ∧ PostE g W H0 F ρ δ σ H (ge δ st) Q
section
variable {g : GG} {W : WX} {H0 F F' H H' : Hp} {ρ ρ' : List Addr} {δ : DEnv} {σ : L2.St} {st st' : Sto} {r : Rv} {v : V} {Q : VK}
theorem PostE.later {o : Option (Res Rv × Sto)} (h : PostE g W H0 F ρ δ σ H o Q) (A : After ρ F H ρ' F' H') : PostE g W H0 F' ρ' δ σ H' o Q := by
  match o, h with
  | some (.ok r, st'), h => exact fun v ρ2 F2 H2 A2 S2 R2 => h v ρ2 F2 H2 (A.trans A2) S2 (R2.earlier A A2.ex)
  | some (.ex x, st'), h => exact fun c d ρ2 F2 H2 A2 S2 R2 => h c d ρ2 F2 H2 (A.trans A2) S2 R2
theorem PostE.done (h : PostE g W H0 F ρ δ σ H (some (.ok r, st)) Q) (S : St0 g H0 F ρ δ st σ H) (e : Ext F H F' H') (R : RepR g F' ρ δ σ H H' r v) : Q v H' :=
  h v ρ F' H' e.after (S.ext e) R
theorem PostE.done0 (h : PostE g W H0 F ρ δ σ H (some (.ok r, st)) Q) (S : St0 g H0 F ρ δ st σ H) (R : RepR g F ρ δ σ H H r v) : Q v H :=
  h.done S (Ext.refl S.fs) R
/-- the same from a state within -/
theorem PostE_bnd {ma : M Rv} {k : Rv → M Rv} {R : V → Hp → Prop} (h : PostE g W H0 F ρ δ σ H (bnd ma k st) Q)
    (hk : ∀ F' ρ' st' H' v r, After ρ F H ρ' F' H' → St0 g H0 F' ρ' δ st' σ H' → RepR g F' ρ' δ σ H H' r v → PostE g W H0 F' ρ' δ σ H' (k r st') Q → R v H') : PostE g W H0 F ρ δ σ H (ma st) R := by
  unfold bnd at h
  match e : ma st, h with
  | none, h => exact h
  | some (.ok r, st'), h => exact fun v ρ' F' H' A S' R' => hk F' ρ' st' H' v r A S' R' (PostE.later h A)
  | some (.ex x, st'), h => exact h
theorem PostE_bnd0 {ma : M Rv} {k : Rv → M Rv} {R : V → Hp → Prop} (h : PostE g W H0 F ρ δ σ H (bnd ma k st) Q)
    (hk : ∀ F' ρ' st' H' v r, After ρ F H ρ' F' H' → St0 g H0 F' ρ' δ st' σ H' → RepR g F' ρ' δ σ H H' r v → PostE g W H0 F ρ δ σ H (k r st') Q → R v H') : PostE g W H0 F ρ δ σ H (ma st) R := by
  unfold bnd at h
  match e : ma st, h with
  | none, h => exact h
  | some (.ok r, st'), h => exact fun v ρ' F' H' A S' R' => hk F' ρ' st' H' v r A S' R' h
  | some (.ex x, st'), h => exact h
/-- first one expression, then what is made of its value -/
theorem rdE_bnd {ga : DEnv → M Rv} {k : DEnv → Rv → M Rv} {R : V → Hp → Prop} (h : rdE g W (fun δ => bnd (ga δ) (k δ)) σ H Q)
    (hk : ∀ H0 F ρ δ st Hs H v r, St0 g H0 F ρ δ st σ H → RepR g F ρ δ σ Hs H r v → PostE g W H0 F ρ δ σ H (k δ r st) Q → R v H) : rdE g W ga σ H R := by
  obtain ⟨H0, F, ρ, δ, st, S, h⟩ := h
  exact ⟨H0, F, ρ, δ, st, S, PostE_bnd h fun F' ρ' st' H' v r _ S' R' P' => hk H0 F' ρ' δ st' H H' v r S' R' P'⟩
end
end DL

/-! DL2: the judgements; names, constants, displays, arguments. -/
namespace DL
open PySem PySem.Spec PyProof.Rows L2 TL
set_option autoImplicit false

/-! ### contexts -/
structure Ctx where
  P : Program
  w : World
  K : PySem.W.Frag
  mg : Str → Option Value
  base : Heap
  N : List Str
  sc : Scope
  k : Nat
  top : Bool
abbrev Ctx.gg (C : Ctx) : GG := ⟨C.K, C.mg⟩
abbrev xg (X : Cx) : GG := ⟨X.K, X.mg⟩
structure CtxOk (C : Ctx) (X : Cx) : Prop where
  prog : X.prog = C.P
  w : X.w = C.w
  K : X.K = C.K
  mg : X.mg = C.mg
  base : X.base = C.base
  N : X.N = C.N
  sc : X.env.scope = C.sc
  calm : X.calm = true
  room : Room C.k X.A
  pown : PassesOwn (model X.prog X.w) X.A X.env X.xe
  nd : C.N.Nodup
  top : C.top = true → X.fn = fun _ => true
/-- a name that may be stored -/
def Stor (C : Ctx) (x : Str) : Prop := C.sc.names.lookup x = some .local ∨ (C.top = true ∧ C.sc.names.lookup x = some .cell)
theorem CtxOk.loc {C : Ctx} {X : Cx} (ok : CtxOk C X) {x : Str} (h : Stor C x) : Loc X.env.scope x := by
  rw [ok.sc]
  rcases h with h | h
  · exact .inl h
  · exact .inr h.2
theorem CtxOk.fn {C : Ctx} {X : Cx} (ok : CtxOk C X) {x : Str} (h : Stor C x) : X.fn x = true ∨ X.env.scope.names.lookup x = some .local := by
  rcases h with h | h
  · exact .inr (by rw [ok.sc]; exact h)
  · exact .inl (by rw [ok.top h.1])

/-! ### weaker readings -/
section
variable {X : Cx}
theorem peW {e : Expr} {t t' : TE} (p : PE X e t) (h : ∀ σ H Q, t' σ H Q → t σ H Q) : PE X e t' := ⟨fun pins s σ H Q I q => p.run pins s σ H Q I (h _ _ _ q)⟩
theorem ptW {e : Expr} {t t' : TT} (p : PT X e t) (h : ∀ σ H Q, t' σ H Q → t σ H Q) : PT X e t' := ⟨fun pins s σ H Q I q => p.run pins s σ H Q I (h _ _ _ q)⟩
theorem pwW {e : Expr} {t t' : TT} (p : PW X e t) (h : ∀ σ H Q, t' σ H Q → t σ H Q) : PW X e t' := ⟨fun wh pins s σ H Q I q => p.run wh pins s σ H Q I (h _ _ _ q)⟩
theorem paW {es : List Expr} {t t' : TA} (p : PA X es t) (h : ∀ σ H Q, t' σ H Q → t σ H Q) : PA X es t' := ⟨fun pos pins s σ H Q I q => p.run pos pins s σ H Q I (h _ _ _ q)⟩
theorem psW {st : Stmt} {t t' : TS} (p : PS X st t) (h : ∀ D σ H, t' D σ H → t D σ H) : PS X st t' := ⟨fun pins s σ H D I q => p.run pins s σ H D I (h _ _ _ q)⟩
theorem pssW {st : List Stmt} {t t' : TS} (p : PSs X st t) (h : ∀ D σ H, t' D σ H → t D σ H) : PSs X st t' := ⟨fun pins s σ H D I q => p.run pins s σ H D I (h _ _ _ q)⟩
end

/-- an expression's value by a function of the slots -/
def DE (C : Ctx) (e : Expr) (ge : DEnv → M Rv) : Prop := ∀ X W, CtxOk C X → Takes X W → PE X e (rdE (xg X) W ge)

/-! ### tests: the same with a bool -/
def PostT (g : GG) (W : WX) (H0 F : Hp) (ρ : List Addr) (δ : DEnv) (σ : L2.St) (H : Hp) (o : Option (Res Bool × Sto)) (Q : Bool → Hp → Prop) : Prop := match o with
  | none => False
  | some (.ok b, st') => ∀ ρ' F' H', After ρ F H ρ' F' H' → St0 g H0 F' ρ' δ st' σ H' → Q b H'
  | some (.ex x, st') => ∀ c d ρ' F' H', After ρ F H ρ' F' H' → St0 g H0 F' ρ' δ st' σ H' → RepX g F' ρ' H' x c d → W c d σ H'
def rdT (g : GG) (W : WX) (ge : DEnv → M Bool) : TT := fun σ H Q => ∃ H0 F ρ δ st, St0 g H0 F ρ δ st σ H ∧ PostT g W H0 F ρ δ σ H (ge δ st) Q
def DT (C : Ctx) (e : Expr) (ge : DEnv → M Bool) : Prop := ∀ X W, CtxOk C X → Takes X W → PT X e (rdT (xg X) W ge)
def DW (C : Ctx) (e : Expr) (ge : DEnv → M Bool) : Prop := ∀ X W, CtxOk C X → Takes X W → PW X e (rdT (xg X) W ge)
/-! ### argument lists -/
inductive RepRs (g : GG) (F : Hp) (ρ : List Addr) (δ : DEnv) (σ : L2.St) (H1 H : Hp) : List Rv → List V → Prop
  | nil : RepRs g F ρ δ σ H1 H [] []
  | cons {r : Rv} {v : V} {rs : List Rv} {vs : List V} : RepR g F ρ δ σ H1 H r v → RepRs g F ρ δ σ H1 H rs vs → RepRs g F ρ δ σ H1 H (r :: rs) (v :: vs)
def PostA (g : GG) (W : WX) (H0 F : Hp) (ρ : List Addr) (δ : DEnv) (σ : L2.St) (H : Hp) (o : Option (Res (List Rv) × Sto)) (Q : List V → Hp → Prop) : Prop := match o with
  | none => False
  | some (.ok rs, st') => ∀ vs ρ' F' H', After ρ F H ρ' F' H' → St0 g H0 F' ρ' δ st' σ H' → RepRs g F' ρ' δ σ H H' rs vs → Q vs H'
  | some (.ex x, st') => ∀ c d ρ' F' H', After ρ F H ρ' F' H' → St0 g H0 F' ρ' δ st' σ H' → RepX g F' ρ' H' x c d → W c d σ H'
def rdA (g : GG) (W : WX) (ge : DEnv → M (List Rv)) : TA := fun σ H Q => ∃ H0 F ρ δ st, St0 g H0 F ρ δ st σ H ∧ PostA g W H0 F ρ δ σ H (ge δ st) Q
def DA (C : Ctx) (es : List Expr) (ge : DEnv → M (List Rv)) : Prop := ∀ X W, CtxOk C X → Takes X W → PA X es (rdA (xg X) W ge)

section
variable {g : GG} {W : WX} {H0 F F' H H' H1 : Hp} {ρ ρ' : List Addr} {δ : DEnv} {σ : L2.St} {st st' : Sto} {r : Rv} {rs : List Rv} {v : V} {vs : List V}
theorem RepRs.mono : ∀ {rs : List Rv} {vs : List V}, RepRs g F ρ δ σ H1 H rs vs → After ρ F H ρ' F' H' → RepRs g F' ρ' δ σ H1 H' rs vs
  | _, _, .nil, _ => .nil
  | _, _, .cons h t, A => .cons (h.mono A) (t.mono A)
theorem RepRs.earlier {ρ0 : List Addr} {F0 HH : Hp} : ∀ {rs : List Rv} {vs : List V}, RepRs g F' ρ' δ σ H1 H' rs vs → After ρ0 F0 HH ρ F H1 → (∃ l, ρ' = ρ ++ l) → RepRs g F' ρ' δ σ HH H' rs vs
  | _, _, .nil, _, _ => .nil
  | _, _, .cons h t, A, p => .cons (h.earlier A p) (t.earlier A p)
theorem RepRs.length : ∀ {rs : List Rv} {vs : List V}, RepRs g F ρ δ σ H1 H rs vs → rs.length = vs.length
  | _, _, .nil => rfl
  | _, _, .cons _ t => congrArg (· + 1) t.length
theorem RepRs.get : ∀ {rs : List Rv} {vs : List V} {i : Nat} {r : Rv}, RepRs g F ρ δ σ H1 H rs vs → rs[i]? = some r → ∃ v, vs[i]? = some v ∧ RepR g F ρ δ σ H1 H r v
  | _, _, _, _, .nil, e => by simp at e
  | _, _, 0, _, .cons r _, e => by simp at e; subst e; exact ⟨_, rfl, r⟩
  | _, _, i + 1, d, .cons _ t, e => by
    obtain ⟨v, h1, h2⟩ := RepRs.get (i := i) t (by simpa using e)
    exact ⟨v, by simpa using h1, h2⟩
theorem PostA.later {Q : List V → Hp → Prop} {o : Option (Res (List Rv) × Sto)} (h : PostA g W H0 F ρ δ σ H o Q) (A : After ρ F H ρ' F' H') : PostA g W H0 F' ρ' δ σ H' o Q := by
  match o, h with
  | some (.ok r, st'), h => exact fun v ρ2 F2 H2 A2 S2 R2 => h v ρ2 F2 H2 (A.trans A2) S2 (R2.earlier A A2.ex)
  | some (.ex x, st'), h => exact fun c d ρ2 F2 H2 A2 S2 R2 => h c d ρ2 F2 H2 (A.trans A2) S2 R2
theorem PostT.later {Q : Bool → Hp → Prop} {o : Option (Res Bool × Sto)} (h : PostT g W H0 F ρ δ σ H o Q) (A : After ρ F H ρ' F' H') : PostT g W H0 F' ρ' δ σ H' o Q := by
  match o, h with
  | some (.ok r, st'), h => exact fun ρ2 F2 H2 A2 S2 => h ρ2 F2 H2 (A.trans A2) S2
  | some (.ex x, st'), h => exact fun c d ρ2 F2 H2 A2 S2 R2 => h c d ρ2 F2 H2 (A.trans A2) S2 R2
/-- an expression first, then arguments -/
theorem PostE_bndA {ma : M Rv} {k : Rv → M (List Rv)} {R : V → Hp → Prop} {Q : List V → Hp → Prop} (h : PostA g W H0 F ρ δ σ H (bnd ma k st) Q)
    (hk : ∀ F' ρ' st' H' v r, After ρ F H ρ' F' H' → St0 g H0 F' ρ' δ st' σ H' → RepR g F' ρ' δ σ H H' r v → PostA g W H0 F ρ δ σ H (k r st') Q → R v H') : PostE g W H0 F ρ δ σ H (ma st) R := by
  unfold bnd at h
  match e : ma st, h with
  | none, h => exact h
  | some (.ok r, st'), h => exact fun v ρ' F' H' A S' R' => hk F' ρ' st' H' v r A S' R' h
  | some (.ex x, st'), h => exact h
/-- arguments first -/
theorem PostA_bnd {ma : M (List Rv)} {k : List Rv → M (List Rv)} {R Q : List V → Hp → Prop} (h : PostA g W H0 F ρ δ σ H (bnd ma k st) Q)
    (hk : ∀ F' ρ' st' H' vs rs, After ρ F H ρ' F' H' → St0 g H0 F' ρ' δ st' σ H' → RepRs g F' ρ' δ σ H H' rs vs → PostA g W H0 F ρ δ σ H (k rs st') Q → R vs H') : PostA g W H0 F ρ δ σ H (ma st) R := by
  unfold bnd at h
  match e : ma st, h with
  | none, h => exact h
  | some (.ok r, st'), h => exact fun v ρ' F' H' A S' R' => hk F' ρ' st' H' v r A S' R' h
  | some (.ex x, st'), h => exact h
/-- arguments, then a value of them -/
theorem PostA_bndE {ma : M (List Rv)} {k : List Rv → M Rv} {R : List V → Hp → Prop} {Q : VK} (h : PostE g W H0 F ρ δ σ H (bnd ma k st) Q)
    (hk : ∀ F' ρ' st' H' vs rs, After ρ F H ρ' F' H' → St0 g H0 F' ρ' δ st' σ H' → RepRs g F' ρ' δ σ H H' rs vs → PostE g W H0 F' ρ' δ σ H' (k rs st') Q → R vs H') : PostA g W H0 F ρ δ σ H (ma st) R := by
  unfold bnd at h
  match e : ma st, h with
  | none, h => exact h
  | some (.ok r, st'), h => exact fun v ρ' F' H' A S' R' => hk F' ρ' st' H' v r A S' R' (h.later A)
  | some (.ex x, st'), h => exact h
/-- an expression, then a test's answer -/
theorem PostE_bndT {ma : M Rv} {k : Rv → M Bool} {R : V → Hp → Prop} {Q : Bool → Hp → Prop} (h : PostT g W H0 F ρ δ σ H (bnd ma k st) Q)
    (hk : ∀ F' ρ' st' H' v r, After ρ F H ρ' F' H' → St0 g H0 F' ρ' δ st' σ H' → RepR g F' ρ' δ σ H H' r v → PostT g W H0 F' ρ' δ σ H' (k r st') Q → R v H') : PostE g W H0 F ρ δ σ H (ma st) R := by
  unfold bnd at h
  match e : ma st, h with
  | none, h => exact h
  | some (.ok r, st'), h => exact fun v ρ' F' H' A S' R' => hk F' ρ' st' H' v r A S' R' (h.later A)
  | some (.ex x, st'), h => exact h
/-- a test, then a test -/
theorem PostT_bnd {ma : M Bool} {k : Bool → M Bool} {R Q : Bool → Hp → Prop} (h : PostT g W H0 F ρ δ σ H (bnd ma k st) Q)
    (hk : ∀ F' ρ' st' H' b, After ρ F H ρ' F' H' → St0 g H0 F' ρ' δ st' σ H' → PostT g W H0 F' ρ' δ σ H' (k b st') Q → R b H') : PostT g W H0 F ρ δ σ H (ma st) R := by
  unfold bnd at h
  match e : ma st, h with
  | none, h => exact h
  | some (.ok r, st'), h => exact fun ρ' F' H' A S' => hk F' ρ' st' H' r A S' (h.later A)
  | some (.ex x, st'), h => exact h
/-- a test, then a value -/
theorem PostT_bndE {ma : M Bool} {k : Bool → M Rv} {R : Bool → Hp → Prop} {Q : VK} (h : PostE g W H0 F ρ δ σ H (bnd ma k st) Q)
    (hk : ∀ F' ρ' st' H' b, After ρ F H ρ' F' H' → St0 g H0 F' ρ' δ st' σ H' → PostE g W H0 F' ρ' δ σ H' (k b st') Q → R b H') : PostT g W H0 F ρ δ σ H (ma st) R := by
  unfold bnd at h
  match e : ma st, h with
  | none, h => exact h
  | some (.ok r, st'), h => exact fun ρ' F' H' A S' => hk F' ρ' st' H' r A S' (h.later A)
  | some (.ex x, st'), h => exact h
end

/-! ### constants and names -/
section
variable {C : Ctx}
def gC (d : D) : DEnv → M Rv := fun _ => ret (.fz d)
theorem de_int {i : Int} {j pos} : DE C (.Constant (.int i) j pos) (gC (.int i)) := fun X W ok tk => peW pe_int fun σ H Q ⟨H0, F, ρ, δ, st, S, h⟩ => PostE.done0 h S .int
theorem de_bl {b : Bool} {j pos} : DE C (.Constant (.bool b) j pos) (gC (.bl b)) := fun X W ok tk => peW pe_bl fun σ H Q ⟨H0, F, ρ, δ, st, S, h⟩ => PostE.done0 h S .bl
theorem de_non {j pos} : DE C (.Constant .none j pos) (gC .non) := fun X W ok tk => peW pe_non fun σ H Q ⟨H0, F, ρ, δ, st, S, h⟩ => PostE.done0 h S .non
theorem rep_str {g : GG} {F : Hp} {ρ : List Addr} (x : Str) : Rep g F ρ (.str (tl x)) (.str x) := by
  have e : x = ⟨(tl x).toArray⟩ := (mk_tl x).symm
  have h : Rep g F ρ (.str (tl x)) (.str ⟨(tl x).toArray⟩) := .str
  rw [← e] at h
  exact h
theorem de_str {x : Str} {s : List Nat} {j pos} (e : tl x = s := by decide +kernel) : DE C (.Constant (.str x) j pos) (gC (.str s)) := fun X W ok tk => peW pe_str fun σ H Q ⟨H0, F, ρ, δ, st, S, h⟩ => PostE.done0 h S (by subst e; exact rep_str x)
def gVar (i : Nat) : DEnv → M Rv := fun δ => match δ[i]? with
  | some (some (.fz d)) => ret (.fz d)
  | some (some (.ow _)) => ret (.vw i)
  | _ => fail
theorem de_var {i : Nat} {x : Str} {pos : Pos} (hN : C.N[i]? = some x) (hv : Vis C.sc x) (hd : (x == ("__debug__" : Str)) = false := by decide) (hcd : (x == ("__classdict__" : Str)) = false := by decide) : DE C (.Name x pos) (gVar i) := fun X W ok tk => by
  refine peW (pe_var (i := i) (by rw [ok.N]; exact hN) (by rw [ok.sc]; exact hv) hd hcd) fun σ H Q ⟨H0, F, ρ, δ, st, S, h⟩ => ?_
  unfold gVar at h
  match e : δ[i]? with
  | some (some (.fz d)) =>
    rw [e] at h
    obtain ⟨v, h1, h2⟩ := S.slot i _ e
    exact ⟨v, h1, PostE.done0 h S h2⟩
  | some (some (.ow c)) =>
    rw [e] at h
    obtain ⟨v, h1, h2⟩ := S.slot i _ e
    exact ⟨v, h1, PostE.done0 h S ⟨h1, c, e⟩⟩
  | some none => rw [e] at h; exact h.elim
  | none => rw [e] at h; exact h.elim
/-- a module's constant -/
theorem de_glob {x : Str} {d : D} {v : V} {u : Value} {pos : Pos} (hg : C.sc.names.lookup x = some .globalImplicit) (hm : C.mg x = some u) (r : RelV v u) (hd : ∀ F ρ, Rep C.gg F ρ d v) (hdb : (x == ("__debug__" : Str)) = false := by decide) : DE C (.Name x pos) (gC d) := fun X W ok tk => by
  refine peW (pe_glob (show Gl X x by unfold Gl Env.kindOf; rw [ok.sc]; exact hg) (by rw [ok.mg]; exact hm) r hdb) fun σ H Q ⟨H0, F, ρ, δ, st, S, h⟩ => PostE.done0 h S ?_
  have e : C.gg = xg X := by unfold Ctx.gg xg; rw [ok.K, ok.mg]
  rw [← e]
  exact hd F ρ
end

/-! ### freezing -/
/-- new and owned by nobody: frozen -/
def Con.fz : Con → D
  | .lst ds => .lst ds
  | .dk kvs => .dk kvs
  | .dt kvs => .dt kvs
  | .obj c fs => .obj c fs
def Rv.frz : Rv → Rv
  | .fz d => .fz d
  | .ow c => .fz c.fz
  | .vw i => .vw i
section
variable {g : GG} {W : WX} {H0 F F' H H' H1 : Hp} {ρ ρ' : List Addr} {δ : DEnv} {σ : L2.St} {st st' : Sto} {r : Rv} {rs : List Rv} {v : V} {vs : List V}
/-- what stands at a frozen -/
def frzAt (F H : Hp) (a : Addr) : Hp := fun b => if b = a then H b else F b
theorem same_frz {a : Addr} (h : Same F H) : Same F (frzAt F H a) := fun b o e => by
  unfold frzAt
  split
  · exact h b o e
  · exact e
theorem frz_same {a : Addr} (h : Same F H) : Same (frzAt F H a) H := fun b o e => by
  unfold frzAt at e
  split at e
  · exact e
  · exact h b o e
theorem frz_at {a : Addr} : frzAt F H a a = H a := by unfold frzAt; rw [if_pos rfl]
theorem frz_ne {a b : Addr} (n : b ≠ a) : frzAt F H a b = F b := by
  unfold frzAt
  rw [if_neg n]
theorem ConOk.frz {a : Addr} {c : Con} (h : ConOk g F ρ H a c) (s : Same F H) : Rep g (frzAt F H a) ρ c.fz (.ref a) := by
  have e := same_frz (a := a) s
  have p : ∃ l, ρ = ρ ++ l := ⟨[], by simp⟩
  cases c with
  | lst ds => obtain ⟨vs, h1, r⟩ := h; exact .lst (by rw [frz_at]; exact h1) (r.mono e p)
  | dk kvs => obtain ⟨vs, h1, h2, r⟩ := h; exact .dk (by rw [frz_at]; exact h1) h2 (r.mono e p)
  | dt kvs => obtain ⟨vs, h1, h2, r⟩ := h; exact .dt (by rw [frz_at]; exact h1) h2 (r.mono e p)
  | obj c fs =>
    obtain ⟨C, dx, fvs, h0, h1, h4, r⟩ := h
    exact .obj h0 (by rw [frz_at]; exact h1) h4 (r.mono e p)
theorem ConOk.frzF {a : Addr} {c : Con} {G : Hp} (h : ConOk g F ρ H a c) (s : Same F G) : ConOk g G ρ H a c :=
  h.kept s ⟨[], by simp⟩ fun o q => q
/-- the state, where what stands at a is frozen: a is no cell and no slot's own -/
theorem St0.frzAt (S : St0 g H0 F ρ δ st σ H) {a : Addr} (na : a ∉ ρ) (ns : ∀ (i : Nat) (c : Con), δ[i]? = some (some (.ow c)) → σ[i]? ≠ some (some (.ref a))) : St0 g H0 (frzAt F H a) ρ δ st σ H := by
  have e := same_frz (a := a) S.fs
  refine ⟨frz_same S.fs, S.len, fun i sv q => ?_, S.dist, S.sto.len, S.sto.nd, S.sto.there, fun n c q => ?_⟩
  · obtain ⟨v, h1, h2⟩ := S.slot i sv q
    refine ⟨v, h1, ?_⟩
    cases sv with
    | fz d => exact Rep.mono e ⟨[], by simp⟩ h2
    | ow c =>
      obtain ⟨b, rfl, e2, e3, e4, e5⟩ := h2
      refine ⟨b, rfl, ?_, e3, e4, e5.frzF e⟩
      rw [frz_ne (fun z => ns i c q (by rw [h1, z]))]
      exact e2
  · obtain ⟨b, h1, h2, h3⟩ := S.sto.live n c q
    refine ⟨b, h1, ?_, h3.frzF e⟩
    rw [frz_ne (fun z => na (by rw [← z]; exact List.mem_of_getElem? h1))]
    exact h2
/-- freezing a new value of an expression that began at F1, H1 -/
theorem frz_new {F1 : Hp} {ρ1 : List Addr} {st1 : Sto} (S1 : St0 g H0 F1 ρ1 δ st1 σ H1) (A : After ρ1 F1 H1 ρ F H) (S : St0 g H0 F ρ δ st σ H) (R : RepR g F ρ δ σ H1 H r v) :
    ∃ F', Same F F' ∧ After ρ1 F1 H1 ρ F' H ∧ St0 g H0 F' ρ δ st σ H ∧ RepR g F' ρ δ σ H1 H r.frz v := by
  cases r with
  | fz d => exact ⟨F, Same.refl F, A, S, R⟩
  | vw i => exact ⟨F, Same.refl F, A, S, R⟩
  | ow c =>
    obtain ⟨a, rfl, f, n, z, k⟩ := R
    refine ⟨DL.frzAt F H a, same_frz S.fs, ⟨A.ff.trans (same_frz S.fs), fun b o h1 h2 => ?_, A.pre, A.hk⟩, S.frzAt n fun i c' q e => ?_, k.frz S.fs⟩
    · by_cases hb : b = a
      · subst hb; exact .inl z
      · rw [frz_ne hb] at h1
        exact A.fn b o h1 h2
    · obtain ⟨v', h1, h2⟩ := S1.slot i _ q
      obtain ⟨b, rfl, _, _, _, k1⟩ := h2
      rw [h1] at e
      cases e
      obtain ⟨o, ho⟩ := k1.there
      rw [z] at ho
      cases ho
end
end DL

/-! DL3: operators, displays. -/
namespace DL
open PySem PySem.Spec PyProof.Rows L2 TL
set_option autoImplicit false

def LIM : Nat := 16777216
theorem lim_eq : sizeLine = LIM := sizeLine_eq
/-! ### how a value is taken -/
def opt {α β : Type} (a : Option α) (f : α → M β) : M β := match a with
  | some a => f a
  | none => fail
theorem opt_some {α β : Type} {a : α} {f : α → M β} : opt (some a) f = f a := rfl
theorem opt_ok {α : Type} {a : Option α} {f : α → M Rv} {g : GG} {W : WX} {H0 F H : Hp} {ρ : List Addr} {δ : DEnv} {st : Sto} {σ : L2.St} {Q : VK} (P : PostE g W H0 F ρ δ σ H (opt a f st) Q) : ∃ i, a = some i ∧ PostE g W H0 F ρ δ σ H (f i st) Q := by
  cases a with
  | none => exact P.elim
  | some i => exact ⟨i, rfl, P⟩
def Rv.asI : Rv → Option Int
  | .fz (.int i) => some i
  | _ => none
def Rv.asB : Rv → Option Bool
  | .fz (.bl b) => some b
  | _ => none
def Rv.asS : Rv → Option (List Nat)
  | .fz (.str s) => some s
  | _ => none
def Rv.asT : Rv → Option (List D)
  | .fz (.tup ds) => some ds
  | _ => none
/-- what slot i owns -/
def ownAt (δ : DEnv) (i : Nat) : Option Con := match δ[i]? with
  | some (some (.ow c)) => some c
  | _ => none
def cellAt (st : Sto) (n : Nat) : Option Con := match st[n]? with
  | some (some c) => some c
  | _ => none
def Rv.con (δ : DEnv) (st : Sto) : Rv → Option Con
  | .fz (.loc n) => cellAt st n
  | .fz (.lst ds) => some (.lst ds)
  | .fz (.dk kvs) => some (.dk kvs)
  | .fz (.dt kvs) => some (.dt kvs)
  | .ow c => some c
  | .vw i => ownAt δ i
  | _ => none
def Rv.asL (δ : DEnv) (st : Sto) (r : Rv) : Option (List D) := match r.con δ st with
  | some (.lst ds) => some ds
  | _ => none
/-- a list or a tuple to be read -/
def Rv.asQ (δ : DEnv) (st : Sto) (r : Rv) : Option (List D) := match r with
  | .fz (.tup ds) => some ds
  | .fz (.rol ds) => some ds
  | r => r.asL δ st
section
variable {g : GG} {W : WX} {H0 F F' H H' H1 : Hp} {ρ ρ' : List Addr} {δ : DEnv} {σ : L2.St} {st st' : Sto} {r : Rv} {rs : List Rv} {v : V} {vs : List V}
theorem asI_v {i : Int} (R : RepR g F ρ δ σ H1 H r v) (e : r.asI = some i) : v = .int i := by
  unfold Rv.asI at e
  split at e
  · cases e; exact Rep.int_v R
  · cases e
theorem asB_v {i : Bool} (R : RepR g F ρ δ σ H1 H r v) (e : r.asB = some i) : v = .bl i := by
  unfold Rv.asB at e
  split at e
  · cases e; exact Rep.bl_v R
  · cases e
theorem asS_v {s : List Nat} (R : RepR g F ρ δ σ H1 H r v) (e : r.asS = some s) : v = .str ⟨s.toArray⟩ := by
  unfold Rv.asS at e
  split at e
  · cases e; exact Rep.str_v R
  · cases e
theorem asT_v {ds : List D} (S : St0 g H0 F ρ δ st σ H) (R : RepR g F ρ δ σ H1 H r v) (e : r.asT = some ds) : ∃ a vs, v = .ref a ∧ SqT g.K H a vs ∧ SqT g.K F a vs ∧ Reps g F ρ ds vs := by
  unfold Rv.asT at e
  split at e
  · cases e
    obtain ⟨a, vs, h1, h2, h3⟩ := Rep.tup_v R
    exact ⟨a, vs, h1, Same.sqT S.fs h2, h2, h3⟩
  · cases e
theorem own_v {i : Nat} {c : Con} (S : St0 g H0 F ρ δ st σ H) (e : ownAt δ i = some c) (h : σ[i]? = some (some v)) : ∃ a, v = .ref a ∧ F a = none ∧ a ∉ ρ ∧ ConOk g F ρ H a c := by
  unfold ownAt at e
  split at e
  · rename_i q
    cases e
    obtain ⟨v', h1, h2⟩ := S.slot i _ q
    rw [h] at h1; cases h1
    obtain ⟨a, e1, e2, e3, _, e5⟩ := h2
    exact ⟨a, e1, e2, e3, e5⟩
  · cases e
theorem con_v {c : Con} (S : St0 g H0 F ρ δ st σ H) (R : RepR g F ρ δ σ H1 H r v) (e : r.con δ st = some c) : ∃ a, v = .ref a ∧ ConOk g F ρ H a c := by
  unfold Rv.con at e
  split at e
  · rename_i n
    unfold cellAt at e
    split at e
    · rename_i q
      cases e
      cases R with
      | loc h1 =>
        obtain ⟨a, h2, h3, h4⟩ := S.sto.live n _ q
        rw [h1] at h2; cases h2
        exact ⟨_, rfl, h4⟩
    · cases e
  · cases e
    obtain ⟨a, vs, h1, h2, h3⟩ := Rep.lst_v R
    exact ⟨a, h1, vs, S.fs _ _ h2, h3⟩
  · cases e
    cases R with
    | dk h1 h2 h3 => exact ⟨_, rfl, _, S.fs _ _ h1, h2, h3⟩
  · cases e
    cases R with
    | dt h1 h2 h3 => exact ⟨_, rfl, _, S.fs _ _ h1, h2, h3⟩
  · cases e
    obtain ⟨a, h1, _, _, _, k⟩ := R
    exact ⟨a, h1, k⟩
  · obtain ⟨h1, _⟩ := R
    obtain ⟨a, e1, _, _, k⟩ := own_v S e h1
    exact ⟨a, e1, k⟩
  · cases e
theorem asL_v {ds : List D} (S : St0 g H0 F ρ δ st σ H) (R : RepR g F ρ δ σ H1 H r v) (e : r.asL δ st = some ds) : ∃ a vs, v = .ref a ∧ H a = some (.lst vs) ∧ Reps g F ρ ds vs := by
  unfold Rv.asL at e
  split at e
  · rename_i q
    cases e
    obtain ⟨a, h1, vs, h2, h3⟩ := con_v S R q
    exact ⟨a, vs, h1, h2, h3⟩
  · cases e
theorem asQ_v {ds : List D} (S : St0 g H0 F ρ δ st σ H) (R : RepR g F ρ δ σ H1 H r v) (e : r.asQ δ st = some ds) : ∃ a vs, v = .ref a ∧ (SqL g.K H a vs ∨ SqT g.K H a vs) ∧ Reps g F ρ ds vs := by
  unfold Rv.asQ at e
  split at e
  · cases e
    obtain ⟨a, vs, h1, h2, h3⟩ := Rep.tup_v R
    exact ⟨a, vs, h1, .inr (Same.sqT S.fs h2), h3⟩
  · cases e
    cases R with
    | rol h1 h2 => exact ⟨_, _, rfl, .inl (Same.seq S.fs h1), h2⟩
  · obtain ⟨a, vs, h1, h2, h3⟩ := asL_v S R e
    exact ⟨a, vs, h1, .inl (.of h2), h3⟩
end

/-! ### new objects -/
section
variable {g : GG} {W : WX} {H0 F F' H H' H1 : Hp} {ρ ρ' : List Addr} {δ : DEnv} {σ : L2.St} {st st' : Sto} {r : Rv} {rs : List Rv} {v : V} {vs : List V} {Q : VK} {ds : List D}
theorem St0.nmem (S : St0 g H0 F ρ δ st σ H) {p : Addr} (n : H p = none) : p ∉ ρ := fun z => by
  obtain ⟨o, e⟩ := S.sto.there p z
  rw [n] at e; cases e
theorem new_tup (h : PostE g W H0 F ρ δ σ H (some (.ok (.fz (.tup ds)), st)) Q) (S : St0 g H0 F ρ δ st σ H) (R : Reps g F ρ ds vs) (p : Addr) (np : H p = none) : Q (.ref p) (upd H p (.tup vs)) := by
  have e := ext_frz (o := .tup vs) S.fs np
  exact h.done S e (.tup (SqT.of upd_same) (R.mono e.ff ⟨[], by simp⟩))
theorem new_lst (h : PostE g W H0 F ρ δ σ H (some (.ok (.fz (.lst ds)), st)) Q) (S : St0 g H0 F ρ δ st σ H) (R : Reps g F ρ ds vs) (p : Addr) (np : H p = none) : Q (.ref p) (upd H p (.lst vs)) := by
  have e := ext_frz (o := .lst vs) S.fs np
  exact h.done S e (.lst upd_same (R.mono e.ff ⟨[], by simp⟩))
theorem new_own (h : PostE g W H0 F ρ δ σ H (some (.ok (.ow (.lst ds)), st)) Q) (S : St0 g H0 F ρ δ st σ H) (R : Reps g F ρ ds vs) (p : Addr) (np : H p = none) : Q (.ref p) (upd H p (.lst vs)) :=
  h.done S (ext_new S.fs np) ⟨p, rfl, S.fs.free np, S.nmem np, np, vs, upd_same, R⟩
theorem new_ownK {kvs : List (Key × D)} {kvv : List (Key × V)} (h : PostE g W H0 F ρ δ σ H (some (.ok (.ow (.dk kvs)), st)) Q) (S : St0 g H0 F ρ δ st σ H) (k : kvs.map Prod.fst = kvv.map Prod.fst) (R : Reps g F ρ (kvs.map Prod.snd) (kvv.map Prod.snd)) (p : Addr) (np : H p = none) : Q (.ref p) (upd H p (.dK kvv)) :=
  h.done S (ext_new S.fs np) ⟨p, rfl, S.fs.free np, S.nmem np, np, kvv, upd_same, k, R⟩
theorem new_ownT {kvs : List (List Key × D)} {kvv : List (List Key × V)} (h : PostE g W H0 F ρ δ σ H (some (.ok (.ow (.dt kvs)), st)) Q) (S : St0 g H0 F ρ δ st σ H) (k : kvs.map Prod.fst = kvv.map Prod.fst) (R : Reps g F ρ (kvs.map Prod.snd) (kvv.map Prod.snd)) (p : Addr) (np : H p = none) : Q (.ref p) (upd H p (.dT kvv)) :=
  h.done S (ext_new S.fs np) ⟨p, rfl, S.fs.free np, S.nmem np, np, kvv, upd_same, k, R⟩
end

/-! ### arguments, displays -/
def gFrz (ga : DEnv → M Rv) : DEnv → M Rv := fun δ => bnd (ga δ) fun r => ret r.frz
def gNil : DEnv → M (List Rv) := fun _ => ret []
def gCons (ga : DEnv → M Rv) (gr : DEnv → M (List Rv)) : DEnv → M (List Rv) := fun δ => bnd (ga δ) fun r => bnd (gr δ) fun rs => ret (r.frz :: rs)
def allD : List Rv → Option (List D)
  | [] => some []
  | .fz d :: rs => (allD rs).map (d :: ·)
  | _ :: _ => none
def gTup (gs : DEnv → M (List Rv)) : DEnv → M Rv := fun δ => bnd (gs δ) fun rs => match allD rs with
  | some ds => if ds.length ≤ LIM then ret (.fz (.tup ds)) else fail
  | none => fail
def gLst (gs : DEnv → M (List Rv)) : DEnv → M Rv := fun δ => bnd (gs δ) fun rs => match allD rs with
  | some ds => if ds.length ≤ LIM then ret (.ow (.lst ds)) else fail
  | none => fail
section
variable {g : GG} {W : WX} {H0 F F' H H' H1 : Hp} {ρ ρ' : List Addr} {δ : DEnv} {σ : L2.St} {st st' : Sto} {r : Rv} {rs : List Rv} {v : V} {vs : List V} {Q : VK} {ds : List D}
theorem allD_ok : ∀ {rs : List Rv} {vs : List V} {ds : List D}, RepRs g F ρ δ σ H1 H rs vs → allD rs = some ds → Reps g F ρ ds vs
  | _, _, _, .nil, e => by cases e; exact .nil
  | .fz d :: rs, v :: vs, ds, .cons r t, e => by
    unfold allD at e
    cases q : allD rs with
    | none => rw [q] at e; cases e
    | some es => rw [q] at e; cases e; exact .cons r (allD_ok t q)
  | .ow c :: rs, _, _, .cons r t, e => by cases e
  | .vw c :: rs, _, _, .cons r t, e => by cases e
end
section
variable {C : Ctx} {e : Expr} {es : List Expr} {ga gb : DEnv → M Rv} {gs : DEnv → M (List Rv)} {pos : Pos}
theorem frz_any {g : GG} {F : Hp} {ρ : List Addr} {δ : DEnv} {σ : L2.St} {H1 H2 H : Hp} {r : Rv} {v : V} (R : RepR g F ρ δ σ H1 H r.frz v) : RepR g F ρ δ σ H2 H r.frz v := by
  cases r with
  | fz d => exact R
  | ow c => exact R
  | vw i => exact R
theorem de_frz (h : DE C e ga) : DE C e (gFrz ga) := fun X W ok tk => peW (h X W ok tk) fun σ H Q ⟨H0, F, ρ, δ, st, S, q⟩ => by
  refine ⟨H0, F, ρ, δ, st, S, PostE_bnd0 q fun F' ρ' st' H' v r A S' R' P' => ?_⟩
  obtain ⟨F2, s2, A2, S2, R2⟩ := frz_new S A S' R'
  exact P' v ρ' F2 H' A2 S2 R2
theorem da_nil : DA C [] gNil := fun X W ok tk => paW pa_nil fun σ H Q ⟨H0, F, ρ, δ, st, S, q⟩ => q [] ρ F H .refl S .nil
/-- no star in an argument -/
def noStar : Expr → Bool
  | .Starred .. => false
  | _ => true
theorem star_eq {e : Expr} {es : List Expr} {env : Env} (h : noStar e = true) : starEach (e :: es) env = (false, eval e env) :: starEach es env := by
  cases e <;> first | rfl | cases h
theorem da_cons (h : DE C e ga) (hs : DA C es gs) (hn : noStar e = true := by rfl) : DA C (e :: es) (gCons ga gs) := fun X W ok tk => by
  refine paW (pa_cons (h X W ok tk) (hs X W ok tk) (star_eq hn)) fun σ H Q ⟨H0, F, ρ, δ, st, S, q⟩ => ?_
  refine ⟨H0, F, ρ, δ, st, S, PostE_bndA q fun F' ρ' st' H' v r A S' R' P' => ?_⟩
  obtain ⟨F2, s2, A2, S2, R2⟩ := frz_new S A S' R'
  refine ⟨H0, F2, ρ', δ, st', S2, PostA_bnd (P'.later A2) fun F3 ρ3 st3 H3 vs rs A3 S3 R3 P3 => ?_⟩
  exact P3 (v :: vs) ρ3 F3 H3 A3 S3 (.cons (frz_any (R2.mono A3)) R3)
theorem de_tup {k : Nat} (hs : DA C es gs) : DE C (.Tuple es k pos) (gTup gs) := fun X W ok tk => by
  refine peW (pe_tup (hs X W ok tk)) fun σ H Q ⟨H0, F, ρ, δ, st, S, q⟩ => ?_
  refine ⟨H0, F, ρ, δ, st, S, PostA_bndE q fun F' ρ' st' H' vs rs A S' R' P' => ?_⟩
  cases e : allD rs with
  | none => rw [e] at P'; exact P'.elim
  | some ds =>
    rw [e] at P'
    by_cases hl : ds.length ≤ LIM
    · simp only [if_pos hl] at P'
      have R2 := allD_ok R' e
      exact ⟨by rw [← R2.length, lim_eq]; exact hl, fun p np => new_tup P' S' R2 p np⟩
    · simp only [if_neg hl] at P'; exact P'.elim
theorem de_lst (hs : DA C es gs) : DE C (.List es pos) (gLst gs) := fun X W ok tk => by
  refine peW (pe_lst (hs X W ok tk)) fun σ H Q ⟨H0, F, ρ, δ, st, S, q⟩ => ?_
  refine ⟨H0, F, ρ, δ, st, S, PostA_bndE q fun F' ρ' st' H' vs rs A S' R' P' => ?_⟩
  cases e : allD rs with
  | none => rw [e] at P'; exact P'.elim
  | some ds =>
    rw [e] at P'
    by_cases hl : ds.length ≤ LIM
    · simp only [if_pos hl] at P'
      have R2 := allD_ok R' e
      exact ⟨by rw [← R2.length, lim_eq]; exact hl, fun p np => new_own P' S' R2 p np⟩
    · simp only [if_neg hl] at P'; exact P'.elim
end

/-! ### operators -/
/-- a two-place operation on values -/
abbrev K2 := DEnv → Rv → Rv → M Rv
abbrev K1 := DEnv → Rv → M Rv
def OpD (X : Cx) (r : R2) (k : K2) : Prop := ∀ W H0 F ρ δ st σ H Hs Ht x y v u Q, St0 (xg X) H0 F ρ δ st σ H → RepR (xg X) F ρ δ σ Hs H x v → RepR (xg X) F ρ δ σ Ht H y u → PostE (xg X) W H0 F ρ δ σ H (k δ x y st) Q → r v u H Q
def UnD (X : Cx) (r : V → Hp → VK → Prop) (k : K1) : Prop := ∀ W H0 F ρ δ st σ H Hs x v Q, St0 (xg X) H0 F ρ δ st σ H → RepR (xg X) F ρ δ σ Hs H x v → PostE (xg X) W H0 F ρ δ σ H (k δ x st) Q → r v H Q
def gBin (k : K2) (ga gb : DEnv → M Rv) : DEnv → M Rv := fun δ => bnd (ga δ) fun x => bnd (gb δ) fun y => k δ x y
def gUn (k : K1) (ga : DEnv → M Rv) : DEnv → M Rv := fun δ => bnd (ga δ) fun x => k δ x
/-- an operator's function k, whatever rule it leans on -/
def OpK (C : Ctx) (op : Operator) (k : K2) : Prop := ∀ X, CtxOk C X → ∃ r, OpR X (binaryOp op) r ∧ OpD X r k
def CmpK (C : Ctx) (op : CmpOp) (k : K2) : Prop := ∀ X, CtxOk C X → ∃ r, OpR X (compareOp op) r ∧ OpD X r k
def IpK (C : Ctx) (op : Operator) (k : K2) : Prop := ∀ X, CtxOk C X → ∃ r, OpR X (inplaceOp op) r ∧ OpD X r k
section
variable {C : Ctx} {a b : Expr} {ga gb : DEnv → M Rv} {pos : Pos}
theorem bin_rd {X : Cx} {W : WX} {r : R2} {k : K2} (hk : OpD X r k) {σ : L2.St} {H : Hp} {Q : VK} (h : rdE (xg X) W (gBin k ga gb) σ H Q) : tOp r (rdE (xg X) W ga) (rdE (xg X) W gb) σ H Q := by
  refine rdE_bnd h fun H0 F ρ δ st Hs H v x S R P => ?_
  exact ⟨H0, F, ρ, δ, st, S, PostE_bnd P fun F' ρ' st' H' u y A S' R' P' => hk W H0 F' ρ' δ st' σ H' Hs H x y v u Q S' (R.mono A) R' P'⟩
theorem de_bin {op : Operator} {k : K2} (ho : OpK C op k) (ha : DE C a ga) (hb : DE C b gb) : DE C (.BinOp a op b pos) (gBin k ga gb) := fun X W ok tk => by
  obtain ⟨r, h1, h2⟩ := ho X ok
  exact peW (pe_op h1 (ha X W ok tk) (hb X W ok tk)) fun σ H Q h => bin_rd h2 h
theorem de_cmp {op : CmpOp} {k : K2} (ho : CmpK C op k) (ha : DE C a ga) (hb : DE C b gb) (hm : behindInMarks op b = false := by first | exact nomark _ | rfl) : DE C (.Compare a [op] [b] pos) (gBin k ga gb) := fun X W ok tk => by
  obtain ⟨r, h1, h2⟩ := ho X ok
  exact peW (pe_cmpR h1 (ha X W ok tk) (hb X W ok tk) hm) fun σ H Q h => bin_rd h2 h
end

/-! ### the operators' functions -/
def kI (f : Int → Int → M Rv) : K2 := fun _ x y => opt x.asI fun i => opt y.asI fun j => f i j
def kOr (k k' : K2) (p : DEnv → Rv → Rv → Bool) : K2 := fun δ x y => if p δ x y then k δ x y else k' δ x y
def isII (_ : DEnv) (x y : Rv) : Bool := x.asI.isSome && y.asI.isSome
def isSS (_ : DEnv) (x y : Rv) : Bool := x.asS.isSome && y.asS.isSome
def isTT (_ : DEnv) (x y : Rv) : Bool := x.asT.isSome && y.asT.isSome
def riv (i : Int) : M Rv := ret (.fz (.int i))
def rbv (b : Bool) : M Rv := ret (.fz (.bl b))
def rsv (s : List Nat) : M Rv := ret (.fz (.str s))
def kAddI : K2 := kI fun i j => riv (i + j)
def kSub : K2 := kI fun i j => riv (i - j)
/-- one factor of at most 64 bits, or both not too wide -/
def mulOk (i j : Int) : Bool := decide (-(2 ^ 64) < i ∧ i < 2 ^ 64) || decide (-(2 ^ 64) < j ∧ j < 2 ^ 64) || decide (i.natAbs.log2 + j.natAbs.log2 < 1000000)
def kMulI : K2 := kI fun i j => if mulOk i j then riv (i * j) else fail
def divOk (j : Int) : Bool := decide (0 < j ∧ j.natAbs.log2 < 9000)
def kDiv : K2 := kI fun i j => if divOk j then riv (i / j) else fail
def kMod : K2 := kI fun i j => if 0 < j then riv (i % j) else fail
def kPow : K2 := kI fun i j => if 0 ≤ j ∧ j ≤ 1000000 ∧ i.natAbs < 2 ^ 64 then riv (i ^ j.toNat) else fail
def kAddS : K2 := fun _ x y => opt x.asS fun s => opt y.asS fun t => if s.length + t.length ≤ LIM then rsv (s ++ t) else fail
def kAddL : K2 := fun δ x y st => (opt (x.asL δ st) fun xs => opt (y.asL δ st) fun ys => if xs.length + ys.length ≤ LIM then ret (.ow (.lst (xs ++ ys))) else fail) st
def kAddT : K2 := fun _ x y => opt x.asT fun xs => opt y.asT fun ys => if xs.length + ys.length ≤ LIM then ret (.fz (.tup (xs ++ ys))) else fail
def kAdd : K2 := kOr kAddI (kOr kAddS (kOr kAddT kAddL isTT) isSS) isII
/-- a list times an int; a tuple times an int -/
def kMulL : K2 := fun δ x y st => (opt (x.asL δ st) fun xs => opt y.asI fun j => if -(2 ^ 63) ≤ j ∧ j < 2 ^ 63 ∧ xs.length * j.toNat ≤ LIM then ret (.ow (.lst (List.replicate j.toNat xs).flatten)) else fail) st
def kMulT : K2 := fun _ x y => opt x.asT fun xs => opt y.asI fun j => if xs ≠ [] ∧ 2 ≤ j ∧ j ≤ 1000 ∧ xs.length ≤ 1000 then ret (.fz (.tup (List.replicate j.toNat xs).flatten)) else fail
def isTI (_ : DEnv) (x y : Rv) : Bool := x.asT.isSome && y.asI.isSome
def kMul : K2 := kOr kMulI (kOr kMulT kMulL isTI) isII
section
variable {C : Ctx}
theorem OpK.or {op : Operator} {k k' : K2} {p : DEnv → Rv → Rv → Bool} (h : OpK C op k) (h' : OpK C op k') : OpK C op (kOr k k' p) := fun X ok => by
  obtain ⟨r, h1, h2⟩ := h X ok
  obtain ⟨r', h1', h2'⟩ := h' X ok
  refine ⟨_, h1.or h1', fun W H0 F ρ δ st σ H Hs Ht x y v u Q S R R' P => ?_⟩
  unfold kOr at P
  split at P
  · exact .inl (h2 W H0 F ρ δ st σ H Hs Ht x y v u Q S R R' P)
  · exact .inr (h2' W H0 F ρ δ st σ H Hs Ht x y v u Q S R R' P)
theorem CmpK.or {op : CmpOp} {k k' : K2} {p : DEnv → Rv → Rv → Bool} (h : CmpK C op k) (h' : CmpK C op k') : CmpK C op (kOr k k' p) := fun X ok => by
  obtain ⟨r, h1, h2⟩ := h X ok
  obtain ⟨r', h1', h2'⟩ := h' X ok
  refine ⟨_, h1.or h1', fun W H0 F ρ δ st σ H Hs Ht x y v u Q S R R' P => ?_⟩
  unfold kOr at P
  split at P
  · exact .inl (h2 W H0 F ρ δ st σ H Hs Ht x y v u Q S R R' P)
  · exact .inr (h2' W H0 F ρ δ st σ H Hs Ht x y v u Q S R R' P)
/-- from an operation of two ints -/
theorem kI_ok {X : Cx} {r : R2} {f : Int → Int → M Rv} (h : ∀ W H0 F ρ δ st σ H i j Q, St0 (xg X) H0 F ρ δ st σ H → PostE (xg X) W H0 F ρ δ σ H (f i j st) Q → r (.int i) (.int j) H Q) : OpD X r (kI f) := fun W H0 F ρ δ st σ H Hs Ht x y v u Q S R R' P => by
  unfold kI at P
  obtain ⟨i, e1, P⟩ := opt_ok P
  obtain ⟨j, e2, P⟩ := opt_ok P
  rw [asI_v R e1, asI_v R' e2]
  exact h _ _ _ _ _ _ _ _ _ _ _ S P
theorem pI {X : Cx} {W : WX} {H0 F H : Hp} {ρ : List Addr} {δ : DEnv} {st : Sto} {σ : L2.St} {i : Int} {Q : VK} (S : St0 (xg X) H0 F ρ δ st σ H) (P : PostE (xg X) W H0 F ρ δ σ H (riv i st) Q) : Q (.int i) H := PostE.done0 P S .int
theorem pB {X : Cx} {W : WX} {H0 F H : Hp} {ρ : List Addr} {δ : DEnv} {st : Sto} {σ : L2.St} {i : Bool} {Q : VK} (S : St0 (xg X) H0 F ρ δ st σ H) (P : PostE (xg X) W H0 F ρ δ σ H (rbv i st) Q) : Q (.bl i) H := PostE.done0 P S .bl
theorem pS {X : Cx} {W : WX} {H0 F H : Hp} {ρ : List Addr} {δ : DEnv} {st : Sto} {σ : L2.St} {i : List Nat} {Q : VK} (S : St0 (xg X) H0 F ρ δ st σ H) (P : PostE (xg X) W H0 F ρ δ σ H (rsv i st) Q) : Q (.str ⟨i.toArray⟩) H := PostE.done0 P S .str
theorem ok_addI : OpK C .Add kAddI := fun X ok => ⟨_, op_add, kI_ok fun W H0 F ρ δ st σ H i j Q S P => ⟨i, j, rfl, rfl, pI S P⟩⟩
theorem ok_sub : OpK C .Sub kSub := fun X ok => ⟨_, op_sub, kI_ok fun W H0 F ρ δ st σ H i j Q S P => ⟨i, j, rfl, rfl, pI S P⟩⟩
theorem ok_mulI : OpK C .Mult kMulI := fun X ok => ⟨_, op_mul.or op_mulW, kI_ok fun W H0 F ρ δ st σ H i j Q S P => by
  split at P
  · rename_i h
    unfold mulOk at h
    simp only [Bool.or_eq_true, decide_eq_true_eq] at h
    rcases h with h | h
    · exact .inl ⟨i, j, rfl, rfl, h, pI S P⟩
    · exact .inr ⟨i, j, rfl, rfl, h, pI S P⟩
  · exact P.elim⟩
theorem ok_div : OpK C .FloorDiv kDiv := fun X ok => ⟨_, op_fdivW, kI_ok fun W H0 F ρ δ st σ H i j Q S P => by
  split at P
  · rename_i h
    unfold divOk at h
    simp only [decide_eq_true_eq] at h
    exact ⟨i, j, rfl, rfl, h, pI S P⟩
  · exact P.elim⟩
theorem ok_mod : OpK C .Mod kMod := fun X ok => ⟨_, op_mod, kI_ok fun W H0 F ρ δ st σ H i j Q S P => by
  split at P
  · rename_i h
    exact ⟨i, j, rfl, rfl, h, pI S P⟩
  · exact P.elim⟩
theorem ok_pow : OpK C .Pow kPow := fun X ok => ⟨_, op_pow, kI_ok fun W H0 F ρ δ st σ H i j Q S P => by
  split at P
  · rename_i h
    exact ⟨i, j, rfl, rfl, h, pI S P⟩
  · exact P.elim⟩
theorem app_str (s t : List Nat) : (⟨s.toArray⟩ : Str) ++ (⟨t.toArray⟩ : Str) = ⟨(s ++ t).toArray⟩ := ext_tl (by rw [tl_append, tl_mk, tl_mk, tl_mk])
theorem len_mk (s : List Nat) : Str.length ⟨s.toArray⟩ = s.length := by rw [len_tl, tl_mk]
theorem ok_addS : OpK C .Add kAddS := fun X ok => ⟨_, op_add_str, fun W H0 F ρ δ st σ H Hs Ht x y v u Q S R R' P => by
  unfold kAddS at P
  obtain ⟨s, e1, P⟩ := opt_ok P
  obtain ⟨t, e2, P⟩ := opt_ok P
  split at P
  · rename_i h
    refine ⟨_, _, asS_v R e1, asS_v R' e2, by rw [len_mk, len_mk, lim_eq]; exact h, ?_⟩
    rw [app_str]
    exact pS S P
  · exact P.elim⟩
theorem ok_addL : OpK C .Add kAddL := fun X ok => ⟨_, op_cat, fun W H0 F ρ δ st σ H Hs Ht x y v u Q S R R' P => by
  unfold kAddL at P
  obtain ⟨s, e1, P⟩ := opt_ok P
  obtain ⟨t, e2, P⟩ := opt_ok P
  obtain ⟨a, vs, rfl, h1, r1⟩ := asL_v S R e1
  obtain ⟨b, ws, rfl, h2, r2⟩ := asL_v S R' e2
  split at P
  · rename_i h
    exact ⟨a, b, vs, ws, rfl, rfl, h1, h2, by rw [← r1.length, ← r2.length, lim_eq]; exact h, fun p np => new_own P S (r1.append r2) p np⟩
  · exact P.elim⟩
theorem ok_addT : OpK C .Add kAddT := fun X ok => ⟨_, op_catA, fun W H0 F ρ δ st σ H Hs Ht x y v u Q S R R' P => by
  unfold kAddT at P
  obtain ⟨s, e1, P⟩ := opt_ok P
  obtain ⟨t, e2, P⟩ := opt_ok P
  obtain ⟨a, vs, rfl, h1, f1, r1⟩ := asT_v S R e1
  obtain ⟨b, ws, rfl, h2, f2, r2⟩ := asT_v S R' e2
  split at P
  · rename_i h
    refine ⟨a, b, vs, ws, rfl, rfl, h1, h2, by rw [← r1.length, ← r2.length, lim_eq]; exact h, fun e => ?_, fun _ e => ?_, fun _ _ p np => new_tup P S (r1.append r2) p np⟩
    · subst e
      cases r1
      exact PostE.done0 P S (.tup f2 r2)
    · subst e
      cases r2
      rw [List.append_nil] at P
      exact PostE.done0 P S (.tup f1 r1)
  · exact P.elim⟩
theorem ok_add : OpK C .Add kAdd := ok_addI.or (ok_addS.or (ok_addT.or ok_addL))
theorem ok_mulL : OpK C .Mult kMulL := fun X ok => ⟨_, op_rep, fun W H0 F ρ δ st σ H Hs Ht x y v u Q S R R' P => by
  unfold kMulL at P
  obtain ⟨s, e1, P⟩ := opt_ok P
  obtain ⟨t, e2, P⟩ := opt_ok P
  obtain ⟨a, vs, rfl, h1, r1⟩ := asL_v S R e1
  split at P
  · rename_i h
    exact ⟨a, t, vs, rfl, asI_v R' e2, h1, h.1, h.2.1, by rw [← r1.length, lim_eq]; exact h.2.2, fun p np => new_own P S (r1.rep _) p np⟩
  · exact P.elim⟩
theorem ok_mulT : OpK C .Mult kMulT := fun X ok => ⟨_, op_repT, fun W H0 F ρ δ st σ H Hs Ht x y v u Q S R R' P => by
  unfold kMulT at P
  obtain ⟨s, e1, P⟩ := opt_ok P
  obtain ⟨t, e2, P⟩ := opt_ok P
  obtain ⟨a, vs, rfl, h1, f1, r1⟩ := asT_v S R e1
  split at P
  · rename_i h
    refine ⟨a, t, vs, rfl, asI_v R' e2, h1, fun e => ?_, h.2.1, h.2.2.1, by rw [← r1.length]; exact h.2.2.2, fun p np => new_tup P S (r1.rep _) p np⟩
    subst e
    cases r1
    exact h.1 rfl
  · exact P.elim⟩
theorem ok_mul : OpK C .Mult kMul := ok_mulI.or (ok_mulT.or ok_mulL)
end
end DL

/-! DL4: comparisons, tests, and, or, not, if-expressions. -/
namespace DL
open PySem PySem.Spec PyProof.Rows L2 TL
set_option autoImplicit false

/-! ### data as the library's equality takes it -/
mutual
def D.py : D → Option PyData
  | .non => some .none
  | .bl b => some (.bool b)
  | .int i => some (.int i)
  | .str s => some (.str ⟨s.toArray⟩)
  | .tup ds => (pyAll ds).map .tuple
  | .lst ds => (pyAll ds).map .list
  | .rol ds => none
  | .obj _ _ => none
  | .dk _ => none
  | .dt _ => none
  | .loc _ => none
  | .ty _ => none
def pyAll : List D → Option (List PyData)
  | [] => some []
  | d :: ds => match D.py d, pyAll ds with
    | some p, some ps => some (p :: ps)
    | _, _ => none
end
def D.shaped (d : D) : Bool := match d.py with
  | some p => SeqAt.shaped p
  | none => false
def D.eqv (d e : D) : Bool := match d.py, e.py with
  | some p, some q => PyData.eqv p q
  | _, _ => false
section
variable {g : GG} {F H : Hp} {ρ : List Addr}
mutual
theorem py_dp (hs : Same F H) : ∀ {d : D} {v : V} {p : PyData}, Rep g F ρ d v → d.py = some p → Dp g.K H v p
  | .non, _, p, r, e => by rw [D.py] at e; cases e; rw [Rep.non_v r]; exact .non
  | .bl b, _, p, r, e => by rw [D.py] at e; cases e; rw [Rep.bl_v r]; exact .bl b
  | .int b, _, p, r, e => by rw [D.py] at e; cases e; rw [Rep.int_v r]; exact .int b
  | .str b, _, p, r, e => by rw [D.py] at e; cases e; rw [Rep.str_v r]; exact .str _
  | .tup ds, _, p, r, e => by
    rw [D.py] at e
    cases q : pyAll ds with
    | none => rw [q] at e; cases e
    | some ps =>
      rw [q] at e; cases e
      obtain ⟨a, vs, rfl, h1, h2⟩ := Rep.tup_v r
      exact .tup (Same.sqT hs h1) (py_dps hs h2 q)
  | .lst ds, _, p, r, e => by
    rw [D.py] at e
    cases q : pyAll ds with
    | none => rw [q] at e; cases e
    | some ps =>
      rw [q] at e; cases e
      obtain ⟨a, vs, rfl, h1, h2⟩ := Rep.lst_v r
      exact .lst (.of (hs _ _ h1)) (py_dps hs h2 q)
  | .rol ds, _, p, r, e => by rw [D.py] at e; cases e
  | .obj _ _, _, p, r, e => by rw [D.py] at e; cases e
  | .dk _, _, p, r, e => by rw [D.py] at e; cases e
  | .dt _, _, p, r, e => by rw [D.py] at e; cases e
  | .loc _, _, p, r, e => by rw [D.py] at e; cases e
  | .ty _, _, p, r, e => by rw [D.py] at e; cases e
theorem py_dps (hs : Same F H) : ∀ {ds : List D} {vs : List V} {ps : List PyData}, Reps g F ρ ds vs → pyAll ds = some ps → DpAll g.K H vs ps
  | [], _, ps, r, e => by rw [pyAll] at e; cases e; cases r; exact .nil
  | d :: ds, _, ps, r, e => by
    rw [pyAll] at e
    cases r with
    | cons r t =>
      cases q1 : D.py d with
      | none => rw [q1] at e; cases e
      | some p =>
        cases q2 : pyAll ds with
        | none => rw [q1, q2] at e; cases e
        | some ps' =>
          rw [q1, q2] at e; cases e
          exact .cons (py_dp hs r q1) (py_dps hs t q2)
end
end
/-- the data of a value that is read -/
def Rv.dat (δ : DEnv) : Rv → Option D
  | .fz d => some d
  | .ow c => some c.fz
  | .vw i => (ownAt δ i).map Con.fz
section
variable {g : GG} {W : WX} {H0 F F' H H' H1 : Hp} {ρ ρ' : List Addr} {δ : DEnv} {σ : L2.St} {st st' : Sto} {r : Rv} {rs : List Rv} {v : V} {vs : List V}
/-- the data stands over the heap itself -/
theorem dat_v {d : D} (S : St0 g H0 F ρ δ st σ H) (R : RepR g F ρ δ σ H1 H r v) (e : r.dat δ = some d) : Rep g H ρ d v := by
  have p : ∃ l, ρ = ρ ++ l := ⟨[], by simp⟩
  have key : ∀ {a : Addr} {c : Con}, ConOk g F ρ H a c → Rep g H ρ c.fz (.ref a) := fun {a c} k => by
    cases c with
    | lst ds => obtain ⟨vs, h1, r⟩ := k; exact .lst h1 (r.mono S.fs p)
    | dk kvs => obtain ⟨vs, h1, h2, r⟩ := k; exact .dk h1 h2 (r.mono S.fs p)
    | dt kvs => obtain ⟨vs, h1, h2, r⟩ := k; exact .dt h1 h2 (r.mono S.fs p)
    | obj c fs => obtain ⟨C, dx, fvs, h0, h1, h4, r⟩ := k; exact .obj h0 h1 h4 (r.mono S.fs p)
  cases r with
  | fz d' => cases e; exact Rep.mono S.fs p R
  | ow c =>
    cases e
    obtain ⟨a, rfl, _, _, _, k⟩ := R
    exact key k
  | vw i =>
    cases q : ownAt δ i with
    | none => change (ownAt δ i).map Con.fz = some d at e; rw [q] at e; cases e
    | some c =>
      change (ownAt δ i).map Con.fz = some d at e; rw [q] at e; cases e
      obtain ⟨a, rfl, _, _, k⟩ := own_v S q R.1
      exact key k
end

/-! ### == and its like -/
def kS (f : List Nat → List Nat → M Rv) : K2 := fun _ x y => opt x.asS fun s => opt y.asS fun t => f s t
def kEqD (n : Bool) : K2 := fun δ x y => opt (x.dat δ) fun d => opt (y.dat δ) fun e => if d.shaped && e.shaped then rbv (xor n (d.eqv e)) else fail
def kEq (n : Bool) : K2 := kOr (kI fun i j => rbv (xor n (decide (i = j)))) (kOr (kS fun s t => rbv (xor n (decide (s = t)))) (kEqD n) isSS) isII
def kLt : K2 := kOr (kI fun i j => rbv (decide (i < j))) (kS fun s t => rbv (decide (s < t))) isII
def kLe : K2 := kOr (kI fun i j => rbv (decide (i ≤ j))) (kS fun s t => rbv (!decide (t < s))) isII
def kGt : K2 := kOr (kI fun i j => rbv (decide (j < i))) (kS fun s t => rbv (decide (t < s))) isII
def kGe : K2 := kOr (kI fun i j => rbv (decide (j ≤ i))) (kS fun s t => rbv (!decide (s < t))) isII
def Rv.isNon : Rv → Bool
  | .fz .non => true
  | _ => false
def kIsN (n : Bool) : K2 := fun _ x y => if y.isNon then rbv (xor n x.isNon) else fail
def kIsB (n : Bool) : K2 := fun _ x y => opt x.asB fun a => opt y.asB fun b => rbv (xor n (decide (a = b)))
def isBB (_ : DEnv) (x y : Rv) : Bool := x.asB.isSome && y.asB.isSome
def kIs (n : Bool) : K2 := kOr (kIsB n) (kIsN n) isBB
/-- a flat item -/
def D.flat : D → Bool
  | .non => true
  | .bl _ => true
  | .int _ => true
  | .str _ => true
  | _ => false
def eqF : D → D → Bool
  | .non, .non => true
  | .bl a, .bl b => a == b
  | .bl a, .int b => (if a then 1 else 0) == b
  | .int a, .bl b => a == (if b then 1 else 0)
  | .int a, .int b => a == b
  | .str a, .str b => decide (a = b)
  | _, _ => false
def inD (x : D) (ds : List D) : Bool := ds.any fun d => eqF d x
def kInQ (n : Bool) : K2 := fun δ x y st => (opt (x.dat δ) fun d => opt (y.asQ δ st) fun ds => if d.flat && ds.all D.flat then rbv (xor n (inD d ds)) else fail) st
/-- one sign in a text -/
def kInS (n : Bool) : K2 := kS fun s t => match s with
  | [c] => rbv (xor n (decide (c ∈ t)))
  | _ => fail
def kIn (n : Bool) : K2 := kOr (kInS n) (kInQ n) isSS
section
variable {C : Ctx}
theorem kS_ok {X : Cx} {r : R2} {f : List Nat → List Nat → M Rv} (h : ∀ W H0 F ρ δ st σ H s t Q, St0 (xg X) H0 F ρ δ st σ H → PostE (xg X) W H0 F ρ δ σ H (f s t st) Q → r (.str ⟨s.toArray⟩) (.str ⟨t.toArray⟩) H Q) : OpD X r (kS f) := fun W H0 F ρ δ st σ H Hs Ht x y v u Q S R R' P => by
  unfold kS at P
  obtain ⟨i, e1, P⟩ := opt_ok P
  obtain ⟨j, e2, P⟩ := opt_ok P
  rw [asS_v R e1, asS_v R' e2]
  exact h _ _ _ _ _ _ _ _ _ _ _ S P
theorem str_inj {s t : List Nat} : (⟨s.toArray⟩ : Str) = ⟨t.toArray⟩ ↔ s = t := by
  refine ⟨fun e => ?_, fun e => by rw [e]⟩
  have := congrArg tl e
  rwa [tl_mk, tl_mk] at this
theorem dec_iff {p q : Prop} [Decidable p] [Decidable q] (h : p ↔ q) : decide p = decide q := by
  by_cases hp : p
  · rw [decide_eq_true hp, decide_eq_true (h.mp hp)]
  · rw [decide_eq_false hp, decide_eq_false fun z => hp (h.mpr z)]
theorem ok_eqI (n : Bool) : CmpK C (if n then .NotEq else .Eq) (kI fun i j => rbv (xor n (decide (i = j)))) := fun X ok => by
  cases n with
  | false => exact ⟨_, op_eq, kI_ok fun W H0 F ρ δ st σ H i j Q S P => ⟨rfl, by
      have := pB S P
      rw [Bool.false_xor] at this
      rw [dec_iff (show V.int i = V.int j ↔ i = j from ⟨V.int.inj, fun e => by rw [e]⟩)]
      exact this⟩⟩
  | true => exact ⟨_, op_ne, kI_ok fun W H0 F ρ δ st σ H i j Q S P => ⟨rfl, by
      have := pB S P
      rw [Bool.true_xor] at this
      rw [dec_iff (show V.int i = V.int j ↔ i = j from ⟨V.int.inj, fun e => by rw [e]⟩)]
      exact this⟩⟩
theorem ok_eqS (n : Bool) : CmpK C (if n then .NotEq else .Eq) (kS fun i j => rbv (xor n (decide (i = j)))) := fun X ok => by
  have key : ∀ s t : List Nat, V.str ⟨s.toArray⟩ = V.str ⟨t.toArray⟩ ↔ s = t := fun s t => ⟨fun e => str_inj.mp (V.str.inj e), fun e => by rw [e]⟩
  cases n with
  | false => exact ⟨_, op_eq, kS_ok fun W H0 F ρ δ st σ H i j Q S P => ⟨rfl, by
      have := pB S P
      rw [Bool.false_xor] at this
      rw [dec_iff (key i j)]
      exact this⟩⟩
  | true => exact ⟨_, op_ne, kS_ok fun W H0 F ρ δ st σ H i j Q S P => ⟨rfl, by
      have := pB S P
      rw [Bool.true_xor] at this
      rw [dec_iff (key i j)]
      exact this⟩⟩
theorem ok_eqD (n : Bool) : CmpK C (if n then .NotEq else .Eq) (kEqD n) := fun X ok => by
  have hu := ok.room.units
  have key : ∀ (W : WX) (H0 F : Hp) (ρ : List Addr) (δ : DEnv) (st : Sto) (σ : L2.St) (H Hs Ht : Hp) (x y : Rv) (v u : V) (Q : VK), St0 (xg X) H0 F ρ δ st σ H → RepR (xg X) F ρ δ σ Hs H x v → RepR (xg X) F ρ δ σ Ht H y u → PostE (xg X) W H0 F ρ δ σ H (kEqD n δ x y st) Q →
      ∃ p q, Dp X.K H v p ∧ Dp X.K H u q ∧ SeqAt.shaped p = true ∧ SeqAt.shaped q = true ∧ Q (.bl (xor n (PyData.eqv p q))) H := fun W H0 F ρ δ st σ H Hs Ht x y v u Q S R R' P => by
    unfold kEqD at P
    obtain ⟨d, e1, P⟩ := opt_ok P
    obtain ⟨e, e2, P⟩ := opt_ok P
    have r1 := dat_v S R e1
    have r2 := dat_v S R' e2
    split at P
    · rename_i h
      rw [Bool.and_eq_true] at h
      obtain ⟨h1, h2⟩ := h
      unfold D.shaped at h1 h2
      unfold D.eqv at P
      cases q1 : d.py with
      | none => rw [q1] at h1; cases h1
      | some p =>
        cases q2 : e.py with
        | none => rw [q2] at h2; cases h2
        | some q =>
          rw [q1] at h1 P
          rw [q2] at h2 P
          exact ⟨p, q, py_dp (Same.refl H) r1 q1, py_dp (Same.refl H) r2 q2, h1, h2, pB S P⟩
    · exact P.elim
  cases n with
  | false => exact ⟨_, op_eqD hu, fun W H0 F ρ δ st σ H Hs Ht x y v u Q S R R' P => by
      obtain ⟨p, q, h1, h2, h3, h4, h5⟩ := key W H0 F ρ δ st σ H Hs Ht x y v u Q S R R' P
      rw [Bool.false_xor] at h5
      exact ⟨p, q, h1, h2, h3, h4, h5⟩⟩
  | true => exact ⟨_, op_neD hu, fun W H0 F ρ δ st σ H Hs Ht x y v u Q S R R' P => by
      obtain ⟨p, q, h1, h2, h3, h4, h5⟩ := key W H0 F ρ δ st σ H Hs Ht x y v u Q S R R' P
      rw [Bool.true_xor] at h5
      exact ⟨p, q, h1, h2, h3, h4, h5⟩⟩
theorem ok_eq : CmpK C .Eq (kEq false) := (ok_eqI false).or ((ok_eqS false).or (ok_eqD false))
theorem ok_ne : CmpK C .NotEq (kEq true) := (ok_eqI true).or ((ok_eqS true).or (ok_eqD true))
theorem ok_lt : CmpK C .Lt kLt := CmpK.or (fun X ok => ⟨_, op_lt, kI_ok fun W H0 F ρ δ st σ H i j Q S P => ⟨i, j, rfl, rfl, pB S P⟩⟩) (fun X ok => ⟨_, op_lt_str, kS_ok fun W H0 F ρ δ st σ H i j Q S P => ⟨_, _, rfl, rfl, pB S P⟩⟩)
theorem ok_le : CmpK C .LtE kLe := CmpK.or (fun X ok => ⟨_, op_le, kI_ok fun W H0 F ρ δ st σ H i j Q S P => ⟨i, j, rfl, rfl, pB S P⟩⟩) (fun X ok => ⟨_, op_le_str, kS_ok fun W H0 F ρ δ st σ H i j Q S P => ⟨_, _, rfl, rfl, pB S P⟩⟩)
theorem ok_gt : CmpK C .Gt kGt := CmpK.or (fun X ok => ⟨_, op_gt, kI_ok fun W H0 F ρ δ st σ H i j Q S P => ⟨i, j, rfl, rfl, pB S P⟩⟩) (fun X ok => ⟨_, op_gt_str, kS_ok fun W H0 F ρ δ st σ H i j Q S P => ⟨_, _, rfl, rfl, pB S P⟩⟩)
theorem ok_ge : CmpK C .GtE kGe := CmpK.or (fun X ok => ⟨_, op_ge, kI_ok fun W H0 F ρ δ st σ H i j Q S P => ⟨i, j, rfl, rfl, pB S P⟩⟩) (fun X ok => ⟨_, op_ge_str, kS_ok fun W H0 F ρ δ st σ H i j Q S P => ⟨_, _, rfl, rfl, pB S P⟩⟩)
theorem isNon_v {g : GG} {F : Hp} {ρ : List Addr} {δ : DEnv} {σ : L2.St} {H1 H H0 : Hp} {st : Sto} {r : Rv} {v : V} (S : St0 g H0 F ρ δ st σ H) (R : RepR g F ρ δ σ H1 H r v) : decide (v = .non) = r.isNon := by
  cases r with
  | fz d =>
    cases d with
    | non => cases R; rfl
    | _ => cases R; rfl
  | ow c =>
    obtain ⟨a, rfl, _⟩ := R
    rfl
  | vw i =>
    obtain ⟨h1, c, h2⟩ := R
    obtain ⟨v', h3, a, rfl, _⟩ := S.slot i _ h2
    rw [h1] at h3; cases h3
    rfl
theorem ok_isN (n : Bool) : CmpK C (if n then .IsNot else .Is) (kIsN n) := fun X ok => by
  cases n with
  | false => exact ⟨_, op_isN, fun W H0 F ρ δ st σ H Hs Ht x y v u Q S R R' P => by
      unfold kIsN at P
      split at P
      · rename_i h
        have := isNon_v S R'
        rw [h] at this
        refine ⟨of_decide_eq_true this, ?_⟩
        rw [isNon_v S R]
        have q := pB S P
        rwa [Bool.false_xor] at q
      · exact P.elim⟩
  | true => exact ⟨_, op_notN, fun W H0 F ρ δ st σ H Hs Ht x y v u Q S R R' P => by
      unfold kIsN at P
      split at P
      · rename_i h
        have := isNon_v S R'
        rw [h] at this
        refine ⟨of_decide_eq_true this, ?_⟩
        rw [isNon_v S R]
        have q := pB S P
        rwa [Bool.true_xor] at q
      · exact P.elim⟩
theorem ok_isB (n : Bool) : CmpK C (if n then .IsNot else .Is) (kIsB n) := fun X ok => by
  cases n with
  | false => exact ⟨_, op_isBl, fun W H0 F ρ δ st σ H Hs Ht x y v u Q S R R' P => by
      unfold kIsB at P
      obtain ⟨d, e1, P⟩ := opt_ok P
      obtain ⟨e, e2, P⟩ := opt_ok P
      have q := pB S P
      rw [Bool.false_xor] at q
      exact ⟨d, e, asB_v R e1, asB_v R' e2, q⟩⟩
  | true => exact ⟨_, op_notBl, fun W H0 F ρ δ st σ H Hs Ht x y v u Q S R R' P => by
      unfold kIsB at P
      obtain ⟨d, e1, P⟩ := opt_ok P
      obtain ⟨e, e2, P⟩ := opt_ok P
      have q := pB S P
      rw [Bool.true_xor] at q
      exact ⟨d, e, asB_v R e1, asB_v R' e2, q⟩⟩
theorem ok_is : CmpK C .Is (kIs false) := (ok_isB false).or (ok_isN false)
theorem ok_isnot : CmpK C .IsNot (kIs true) := (ok_isB true).or (ok_isN true)
theorem flat_v {g : GG} {F : Hp} {ρ : List Addr} {d : D} {v : V} (r : Rep g F ρ d v) (h : d.flat = true) : flatV v = true := by
  cases r <;> first | rfl | cases h
theorem eqF_v {g : GG} {F : Hp} {ρ : List Addr} {d e : D} {v u : V} (r : Rep g F ρ d v) (r' : Rep g F ρ e u) (h : d.flat = true) (h' : e.flat = true) : eqV v u = eqF d e := by
  cases r <;> first | (cases h; done) | (cases r' <;> first | (cases h'; done) | rfl | skip)
  rename_i s t
  show ((⟨s.toArray⟩ : Str) == ⟨t.toArray⟩) = decide (s = t)
  rw [← dec_iff (str_inj (s := s) (t := t))]
  exact Bool.beq_eq_decide_eq _ _
theorem inD_v {g : GG} {F : Hp} {ρ : List Addr} {d : D} {v : V} (r : Rep g F ρ d v) (h : d.flat = true) : ∀ {ds : List D} {vs : List V}, Reps g F ρ ds vs → ds.all D.flat = true → vs.all flatV = true ∧ inV v vs = inD d ds
  | _, _, .nil, _ => ⟨rfl, rfl⟩
  | d' :: ds, v' :: vs, .cons r' t, e => by
    rw [List.all_cons, Bool.and_eq_true] at e
    obtain ⟨h1, h2⟩ := inD_v r h t e.2
    refine ⟨by rw [List.all_cons, flat_v r' e.1, h1]; rfl, ?_⟩
    unfold inV inD at h2 ⊢
    rw [List.any_cons, List.any_cons, eqF_v r' r e.1 h, h2]
theorem ok_inQ (n : Bool) : CmpK C (if n then .NotIn else .In) (kInQ n) := fun X ok => by
  have key : ∀ (W : WX) (H0 F : Hp) (ρ : List Addr) (δ : DEnv) (st : Sto) (σ : L2.St) (H Hs Ht : Hp) (x y : Rv) (v u : V) (Q : VK), St0 (xg X) H0 F ρ δ st σ H → RepR (xg X) F ρ δ σ Hs H x v → RepR (xg X) F ρ δ σ Ht H y u → PostE (xg X) W H0 F ρ δ σ H (kInQ n δ x y st) Q →
      rIn X.K n v u H Q := fun W H0 F ρ δ st σ H Hs Ht x y v u Q S R R' P => by
    unfold kInQ at P
    obtain ⟨d, e1, P⟩ := opt_ok P
    obtain ⟨ds, e2, P⟩ := opt_ok P
    have r1 := dat_v S R e1
    obtain ⟨a, vs, rfl, h1, h2⟩ := asQ_v S R' e2
    have h3 : Reps (xg X) H ρ ds vs := h2.mono S.fs ⟨[], by simp⟩
    split at P
    · rename_i h
      rw [Bool.and_eq_true] at h
      obtain ⟨f1, f2⟩ := inD_v r1 h.1 h3 h.2
      refine ⟨a, vs, rfl, h1, flat_v r1 h.1, f1, ?_⟩
      rw [f2]
      have q := pB S P
      cases n with
      | false => rw [Bool.false_xor] at q; exact q
      | true => rw [Bool.true_xor] at q; exact q
    · exact P.elim
  cases n with
  | false => exact ⟨_, op_in_seq, key⟩
  | true => exact ⟨_, op_notIn_seq, key⟩
theorem ok_inS (n : Bool) : CmpK C (if n then .NotIn else .In) (kInS n) := fun X ok => by
  cases n with
  | false => exact ⟨_, op_in_sign, kS_ok fun W H0 F ρ δ st σ H s t Q S P => by
      match s, P with
      | [c], P =>
        have q := pB S P
        rw [Bool.false_xor] at q
        exact ⟨c, _, rfl, rfl, q⟩
      | [], P => exact P.elim
      | _ :: _ :: _, P => exact P.elim⟩
  | true => exact ⟨_, op_notIn_sign, kS_ok fun W H0 F ρ δ st σ H s t Q S P => by
      match s, P with
      | [c], P =>
        have q := pB S P
        rw [Bool.true_xor] at q
        exact ⟨c, _, rfl, rfl, q⟩
      | [], P => exact P.elim
      | _ :: _ :: _, P => exact P.elim⟩
theorem ok_in : CmpK C .In (kIn false) := (ok_inS false).or (ok_inQ false)
theorem ok_notin : CmpK C .NotIn (kIn true) := (ok_inS true).or (ok_inQ true)
end

/-! ### chains -/
def gChain (k k' : K2) (ga gb gc : DEnv → M Rv) : DEnv → M Rv := fun δ => bnd (ga δ) fun x => bnd (gb δ) fun y => bnd (k δ x y) fun z => opt z.asB fun t => if t then bnd (gc δ) fun w => k' δ y w else rbv false
section
variable {C : Ctx} {a b c : Expr} {ga gb gc : DEnv → M Rv} {pos : Pos}
theorem chain_rd {X : Cx} {W : WX} {r r' : R2} {k k' : K2} (hk : OpD X r k) (hk' : OpD X r' k') {σ : L2.St} {H : Hp} {Q : VK} (h : rdE (xg X) W (gChain k k' ga gb gc) σ H Q) : tChain r r' (rdE (xg X) W ga) (rdE (xg X) W gb) (rdE (xg X) W gc) σ H Q := by
  refine rdE_bnd h fun H0 F ρ δ st Hs H v x S R P => ?_
  refine ⟨H0, F, ρ, δ, st, S, PostE_bnd P fun F1 ρ1 st1 H1 u y A1 S1 R1 P1 => ?_⟩
  refine hk W H0 F1 ρ1 δ st1 σ H1 Hs H x y v u _ S1 (R.mono A1) R1 (PostE_bnd P1 fun F2 ρ2 st2 H2 t z A2 S2 R2 P2 => ?_)
  obtain ⟨t', e, P3⟩ := opt_ok P2
  refine ⟨t', asB_v R2 e, ?_⟩
  cases t' with
  | true =>
    simp only [if_true] at P3 ⊢
    refine ⟨H0, F2, ρ2, δ, st2, S2, PostE_bnd P3 fun F3 ρ3 st3 H3 w' z' A3 S3 R3 P4 => ?_⟩
    exact hk' W H0 F3 ρ3 δ st3 σ H3 H H2 y z' u w' Q S3 ((R1.mono A2).mono A3) R3 P4
  | false =>
    simp only [Bool.false_eq_true, if_false] at P3 ⊢
    exact pB S2 P3
theorem de_chain {op op' : CmpOp} {k k' : K2} (ho : CmpK C op k) (ho' : CmpK C op' k') (ha : DE C a ga) (hb : DE C b gb) (hc : DE C c gc) (hm : lastMarks [op, op'] [b, c] = false := by with_unfolding_all rfl) : DE C (.Compare a [op, op'] [b, c] pos) (gChain k k' ga gb gc) := fun X W ok tk => by
  obtain ⟨r, h1, h2⟩ := ho X ok
  obtain ⟨r', h1', h2'⟩ := ho' X ok
  exact peW (pe_chain h1 h1' (ha X W ok tk) (hb X W ok tk) (hc X W ok tk) hm) fun σ H Q h => chain_rd h2 h2' h
/-! ### tests -/
def gTB (ga : DEnv → M Rv) : DEnv → M Bool := fun δ => bnd (ga δ) fun r => opt r.asB fun b => ret b
theorem optT_ok {α : Type} {a : Option α} {f : α → M Bool} {g : GG} {W : WX} {H0 F H : Hp} {ρ : List Addr} {δ : DEnv} {st : Sto} {σ : L2.St} {Q : Bool → Hp → Prop} (P : PostT g W H0 F ρ δ σ H (opt a f st) Q) : ∃ i, a = some i ∧ PostT g W H0 F ρ δ σ H (f i st) Q := by
  cases a with
  | none => exact P.elim
  | some i => exact ⟨i, rfl, P⟩
theorem pT {g : GG} {W : WX} {H0 F H : Hp} {ρ : List Addr} {δ : DEnv} {st : Sto} {σ : L2.St} {b : Bool} {Q : Bool → Hp → Prop} (S : St0 g H0 F ρ δ st σ H) (P : PostT g W H0 F ρ δ σ H (ret b st) Q) : Q b H := P ρ F H .refl S
theorem tb_rd {X : Cx} {W : WX} {σ : L2.St} {H : Hp} {Q : Bool → Hp → Prop} (h : rdT (xg X) W (gTB ga) σ H Q) : rdE (xg X) W ga σ H (fun x H' => ∃ k, x = .bl k ∧ Q k H') := by
  obtain ⟨H0, F, ρ, δ, st, S, P⟩ := h
  refine ⟨H0, F, ρ, δ, st, S, PostE_bndT P fun F' ρ' st' H' v r A S' R' P' => ?_⟩
  obtain ⟨b, e, P2⟩ := optT_ok P'
  exact ⟨b, asB_v R' e, pT S' P2⟩
theorem dt_cmp {op : CmpOp} {k : K2} (ho : CmpK C op k) (ha : DE C a ga) (hb : DE C b gb) (hm : behindInMarks op b = false := by first | exact nomark _ | rfl) : DT C (.Compare a [op] [b] pos) (gTB (gBin k ga gb)) := fun X W ok tk => by
  obtain ⟨r, h1, h2⟩ := ho X ok
  exact ptW (pt_cmpR h1 (ha X W ok tk) (hb X W ok tk) hm) fun σ H Q h => bin_rd h2 (tb_rd h)
theorem dt_chain {op op' : CmpOp} {k k' : K2} (ho : CmpK C op k) (ho' : CmpK C op' k') (ha : DE C a ga) (hb : DE C b gb) (hc : DE C c gc) (hm : lastMarks [op, op'] [b, c] = false := by with_unfolding_all rfl) : DT C (.Compare a [op, op'] [b, c] pos) (gTB (gChain k k' ga gb gc)) := fun X W ok tk => by
  obtain ⟨r, h1, h2⟩ := ho X ok
  obtain ⟨r', h1', h2'⟩ := ho' X ok
  exact ptW (pt_chain h1 h1' (ha X W ok tk) (hb X W ok tk) (hc X W ok tk) hm) fun σ H Q h => chain_rd h2 h2' (tb_rd h)
/-- truth of a value -/
def Rv.tru (δ : DEnv) (st : Sto) (r : Rv) : Option Bool := match r with
  | .fz .non => some false
  | .fz (.bl b) => some b
  | .fz (.int i) => some (i != 0)
  | .fz (.str s) => if s.length ≤ LIM then some (!s.isEmpty) else none
  | r => (r.asQ δ st).map fun ds => !ds.isEmpty
def gTru (ga : DEnv → M Rv) : DEnv → M Bool := fun δ => bnd (ga δ) fun r st => (opt (r.tru δ st) fun b => ret b) st
theorem tru_v {g : GG} {W : WX} {H0 F H H1 : Hp} {ρ : List Addr} {δ : DEnv} {st : Sto} {σ : L2.St} {r : Rv} {v : V} {b : Bool} (S : St0 g H0 F ρ δ st σ H) (R : RepR g F ρ δ σ H1 H r v) (e : r.tru δ st = some b) : TruV g.K v H b := by
  have seq : (r.asQ δ st).map (fun ds => !ds.isEmpty) = some b → TruV g.K v H b := fun e => by
    cases q : r.asQ δ st with
    | none => rw [q] at e; cases e
    | some ds =>
      rw [q] at e; cases e
      obtain ⟨a, vs, rfl, h1, h2⟩ := asQ_v S R q
      have he : (!ds.isEmpty) = !vs.isEmpty := by cases h2 <;> rfl
      show TruV g.K (V.ref a) H (!ds.isEmpty)
      rw [he]
      rcases h1 with h1 | h1
      · exact .inl ⟨vs, h1, rfl⟩
      · exact .inr (.inl ⟨vs, h1, rfl⟩)
  unfold Rv.tru at e
  split at e
  · cases e; cases R; rfl
  · cases e; cases R; rfl
  · cases e; cases R; rfl
  · rename_i s
    split at e
    · rename_i h
      cases e
      rw [Rep.str_v R]
      refine ⟨by rw [len_mk, lim_eq]; exact h, ?_⟩
      rw [len_mk]
      cases s with
      | nil => rfl
      | cons x t =>
        show true = (((t.length + 1 : Nat) : Int) != 0)
        have : ((t.length + 1 : Nat) : Int) ≠ 0 := by omega
        exact (bne_iff_ne.mpr this).symm
    · cases e
  · exact seq e
theorem dt_tru (ha : DE C a ga) (he : ∀ (env : Env) (whole : Sem Value), isTrue a env whole = (do let v ← whole; standAt a.pos; holding [v] (truthy v)) := by intro _ _; rfl) : DT C a (gTru ga) := fun X W ok tk => by
  refine ptW (pt_truth (ha X W ok tk) (he _)) fun σ H Q ⟨H0, F, ρ, δ, st, S, P⟩ => ?_
  refine ⟨H0, F, ρ, δ, st, S, PostE_bndT P fun F' ρ' st' H' v r A S' R' P' => ?_⟩
  obtain ⟨b, e, P2⟩ := optT_ok P'
  exact ⟨b, tru_v (W := W) S' R' e, pT S' P2⟩
/-! and, or, not -/
def gAndT (s t : DEnv → M Bool) : DEnv → M Bool := fun δ => bnd (s δ) fun c => if c then t δ else ret false
def gOrT (s t : DEnv → M Bool) : DEnv → M Bool := fun δ => bnd (s δ) fun c => if c then ret true else t δ
def gNotT (s : DEnv → M Bool) : DEnv → M Bool := fun δ => bnd (s δ) fun c => ret (!c)
variable {s t : DEnv → M Bool} {rest : List Expr}
theorem dw_and1 (ha : DT C a s) : DW C (.BoolOp .And [a] pos) s := fun X W ok tk => pw_and1 (ha X W ok tk)
theorem dw_or1 (ha : DT C a s) : DW C (.BoolOp .Or [a] pos) s := fun X W ok tk => pw_or1 (ha X W ok tk)
theorem dw_and (ha : DT C a s) (hb : DW C (.BoolOp .And (b :: rest) pos) t) : DW C (.BoolOp .And (a :: b :: rest) pos) (gAndT s t) := fun X W ok tk => by
  refine pwW (pw_and (ha X W ok tk) (hb X W ok tk)) fun σ H Q ⟨H0, F, ρ, δ, st, S, P⟩ => ?_
  refine ⟨H0, F, ρ, δ, st, S, PostT_bnd P fun F' ρ' st' H' c A S' P' => ?_⟩
  cases c with
  | true => simp only [if_true] at P' ⊢; exact ⟨H0, F', ρ', δ, st', S', P'⟩
  | false => simp only [Bool.false_eq_true, if_false] at P' ⊢; exact pT S' P'
theorem dw_or (ha : DT C a s) (hb : DW C (.BoolOp .Or (b :: rest) pos) t) : DW C (.BoolOp .Or (a :: b :: rest) pos) (gOrT s t) := fun X W ok tk => by
  refine pwW (pw_or (ha X W ok tk) (hb X W ok tk)) fun σ H Q ⟨H0, F, ρ, δ, st, S, P⟩ => ?_
  refine ⟨H0, F, ρ, δ, st, S, PostT_bnd P fun F' ρ' st' H' c A S' P' => ?_⟩
  cases c with
  | true => simp only [if_true] at P' ⊢; exact pT S' P'
  | false => simp only [Bool.false_eq_true, if_false] at P' ⊢; exact ⟨H0, F', ρ', δ, st', S', P'⟩
theorem dt_w (h : DW C a s) : DT C a s := fun X W ok tk => (h X W ok tk).pt
theorem dt_not (ha : DT C a s) : DT C (.UnaryOp .Not a pos) (gNotT s) := fun X W ok tk => by
  refine ptW (pt_not (ha X W ok tk)) fun σ H Q ⟨H0, F, ρ, δ, st, S, P⟩ => ?_
  exact ⟨H0, F, ρ, δ, st, S, PostT_bnd P fun F' ρ' st' H' c A S' P' => pT S' P'⟩
/-! as values -/
def gAndV (ga gb : DEnv → M Rv) : DEnv → M Rv := fun δ => bnd (ga δ) fun x => opt x.asB fun c => if c then gb δ else rbv false
def gOrV (ga gb : DEnv → M Rv) : DEnv → M Rv := fun δ => bnd (ga δ) fun x => opt x.asB fun c => if c then rbv true else gb δ
def gNotV (ga : DEnv → M Rv) : DEnv → M Rv := fun δ => bnd (ga δ) fun x => opt x.asB fun c => rbv (!c)
def gIf (s : DEnv → M Bool) (ga gb : DEnv → M Rv) : DEnv → M Rv := fun δ => bnd (s δ) fun c => if c then ga δ else gb δ
theorem de_one {op : BoolOp} (h : DE C a ga) : DE C (.BoolOp op [a] pos) ga := fun X W ok tk => pe_one (h X W ok tk)
theorem de_and (ha : DE C a ga) (hb : DE C (.BoolOp .And (b :: rest) pos) gb) : DE C (.BoolOp .And (a :: b :: rest) pos) (gAndV ga gb) := fun X W ok tk => by
  refine peW (pe_and (ha X W ok tk) (hb X W ok tk)) fun σ H Q h => rdE_bnd h fun H0 F ρ δ st Hs H v r S R P => ?_
  obtain ⟨c, e, P'⟩ := opt_ok P
  refine ⟨c, asB_v R e, ?_⟩
  cases c with
  | true => simp only [if_true] at P' ⊢; exact ⟨H0, F, ρ, δ, st, S, P'⟩
  | false => simp only [Bool.false_eq_true, if_false] at P' ⊢; exact pB S P'
theorem de_or (ha : DE C a ga) (hb : DE C (.BoolOp .Or (b :: rest) pos) gb) : DE C (.BoolOp .Or (a :: b :: rest) pos) (gOrV ga gb) := fun X W ok tk => by
  refine peW (pe_or (ha X W ok tk) (hb X W ok tk)) fun σ H Q h => rdE_bnd h fun H0 F ρ δ st Hs H v r S R P => ?_
  obtain ⟨c, e, P'⟩ := opt_ok P
  refine ⟨c, asB_v R e, ?_⟩
  cases c with
  | true => simp only [if_true] at P' ⊢; exact pB S P'
  | false => simp only [Bool.false_eq_true, if_false] at P' ⊢; exact ⟨H0, F, ρ, δ, st, S, P'⟩
theorem de_not (ha : DE C a ga) : DE C (.UnaryOp .Not a pos) (gNotV ga) := fun X W ok tk => by
  refine peW (pe_not (ha X W ok tk)) fun σ H Q h => rdE_bnd h fun H0 F ρ δ st Hs H v r S R P => ?_
  obtain ⟨c, e, P'⟩ := opt_ok P
  exact ⟨c, asB_v R e, pB S P'⟩
theorem de_if (hc : DT C c s) (ha : DE C a ga) (hb : DE C b gb) : DE C (.IfExp c a b pos) (gIf s ga gb) := fun X W ok tk => by
  refine peW (pe_ifExp (hc X W ok tk) (ha X W ok tk) (hb X W ok tk)) fun σ H Q ⟨H0, F, ρ, δ, st, S, P⟩ => ?_
  refine ⟨H0, F, ρ, δ, st, S, PostT_bndE P fun F' ρ' st' H' t A S' P' => ?_⟩
  cases t with
  | true => simp only [if_true] at P' ⊢; exact ⟨H0, F', ρ', δ, st', S', P'⟩
  | false => simp only [Bool.false_eq_true, if_false] at P' ⊢; exact ⟨H0, F', ρ', δ, st', S', P'⟩
def kNeg : K1 := fun _ x => opt x.asI fun i => riv (-i)
theorem de_neg (ha : DE C a ga) : DE C (.UnaryOp .USub a pos) (gUn kNeg ga) := fun X W ok tk => by
  refine peW (pe_un un_neg (ha X W ok tk)) fun σ H Q h => rdE_bnd h fun H0 F ρ δ st Hs H v r S R P => ?_
  obtain ⟨i, e, P'⟩ := opt_ok P
  exact ⟨i, asI_v R e, pI S P'⟩
end
end DL

/-! DL5: subscripts, slices, calls. -/
namespace DL
open PySem PySem.Spec PyProof.Rows L2 TL
set_option autoImplicit false

/-! ### subscripts -/
def kIxS : K2 := fun _ x y => opt x.asS fun s => opt y.asI fun i => if s.length ≤ LIM then opt (atI s i) fun c => rsv [c] else fail
def kIxQ : K2 := fun δ x y st => (opt (x.asQ δ st) fun ds => opt y.asI fun i => opt (atI ds i) fun d => ret (.fz d)) st
def kIx : K2 := fun δ x y => if x.asS.isSome then kIxS δ x y else kIxQ δ x y
section
variable {g : GG} {F : Hp} {ρ : List Addr}
theorem atI_reps {ds : List D} {vs : List V} {i : Int} {d : D} (r : Reps g F ρ ds vs) (e : atI ds i = some d) : ∃ v, atI vs i = some v ∧ Rep g F ρ d v := by
  unfold atI at e ⊢
  rw [← r.length]
  cases q : ixN ds.length i with
  | none => rw [q] at e; cases e
  | some j =>
    rw [q] at e
    exact r.get e
end
section
variable {C : Ctx} {a b : Expr} {ga gb : DEnv → M Rv} {pos : Pos}
theorem ix_ok (X : Cx) : OpD X (rIx X.K) kIx := fun W H0 F ρ δ st σ H Hs Ht x y v u Q S R R' P => by
  unfold kIx at P
  split at P
  · unfold kIxS at P
    obtain ⟨s, e1, P⟩ := opt_ok P
    obtain ⟨i, e2, P⟩ := opt_ok P
    split at P
    · rename_i hl
      obtain ⟨c, e3, P⟩ := opt_ok P
      refine .inr (.inr ⟨_, i, c, asS_v R e1, asI_v R' e2, by rw [len_mk, lim_eq]; exact hl, e3, ?_⟩)
      exact pS S P
    · exact P.elim
  · unfold kIxQ at P
    obtain ⟨ds, e1, P⟩ := opt_ok P
    obtain ⟨i, e2, P⟩ := opt_ok P
    obtain ⟨d, e3, P⟩ := opt_ok P
    obtain ⟨p, vs, rfl, h1, h2⟩ := asQ_v S R e1
    obtain ⟨w', h3, h4⟩ := atI_reps h2 e3
    rcases h1 with h1 | h1
    · exact .inl ⟨p, vs, i, w', rfl, asI_v R' e2, h1, h3, PostE.done0 P S h4⟩
    · exact .inr (.inl ⟨p, vs, i, w', rfl, asI_v R' e2, h1, h3, PostE.done0 P S h4⟩)
/-- an index that is no slice -/
def noSlice : Expr → Bool
  | .Slice .. => false
  | _ => true
theorem plainIx {b : Expr} (h : noSlice b = true) : PlainIx b := by
  cases b <;> first | (intro _ _; rfl) | cases h
theorem de_ix (ha : DE C a ga) (hb : DE C b gb) (hn : noSlice b = true := by rfl) : DE C (.Subscript a b pos) (gBin kIx ga gb) := fun X W ok tk =>
  peW (pe_ix ix_seq (ha X W ok tk) (hb X W ok tk) (plainIx hn)) fun σ H Q h => bin_rd (ix_ok X) h
end

/-! ### slices -/
def cutQ {α : Type} (xs : List α) (lo hi : Option Int) : List α := (xs.drop (HT.sIx xs.length 0 lo)).take (HT.sIx xs.length xs.length hi - HT.sIx xs.length 0 lo)
theorem cut_reps {g : GG} {F : Hp} {ρ : List Addr} {ds : List D} {vs : List V} (r : Reps g F ρ ds vs) (lo hi : Option Int) : Reps g F ρ (cutQ ds lo hi) (cutV vs lo hi) := by
  unfold cutQ cutV
  rw [r.length]
  exact (r.drop _).take _
/-- the parts of a slice -/
def PostO (g : GG) (W : WX) (H0 F : Hp) (ρ : List Addr) (δ : DEnv) (σ : L2.St) (H : Hp) (o : Option (Res (Option Int) × Sto)) (Q : Option Int → Hp → Prop) : Prop := match o with
  | none => False
  | some (.ok b, st') => ∀ ρ' F' H', After ρ F H ρ' F' H' → St0 g H0 F' ρ' δ st' σ H' → Q b H'
  | some (.ex x, st') => ∀ c d ρ' F' H', After ρ F H ρ' F' H' → St0 g H0 F' ρ' δ st' σ H' → RepX g F' ρ' H' x c d → W c d σ H'
def rdO (g : GG) (W : WX) (ge : DEnv → M (Option Int)) : TO := fun σ H Q => ∃ H0 F ρ δ st, St0 g H0 F ρ δ st σ H ∧ PostO g W H0 F ρ δ σ H (ge δ st) Q
def DO (C : Ctx) (e : Option Expr) (ge : DEnv → M (Option Int)) : Prop := ∀ X W, CtxOk C X → Takes X W → PO X e (rdO (xg X) W ge)
section
variable {g : GG} {W : WX} {H0 F F' H H' H1 : Hp} {ρ ρ' : List Addr} {δ : DEnv} {σ : L2.St} {st st' : Sto} {Q : VK}
theorem PostO.later {Q : Option Int → Hp → Prop} {o : Option (Res (Option Int) × Sto)} (h : PostO g W H0 F ρ δ σ H o Q) (A : After ρ F H ρ' F' H') : PostO g W H0 F' ρ' δ σ H' o Q := by
  match o, h with
  | some (.ok r, st'), h => exact fun ρ2 F2 H2 A2 S2 => h ρ2 F2 H2 (A.trans A2) S2
  | some (.ex x, st'), h => exact fun c d ρ2 F2 H2 A2 S2 R2 => h c d ρ2 F2 H2 (A.trans A2) S2 R2
theorem PostE_bndO {ma : M Rv} {k : Rv → M (Option Int)} {R : V → Hp → Prop} {Q : Option Int → Hp → Prop} (h : PostO g W H0 F ρ δ σ H (bnd ma k st) Q)
    (hk : ∀ F' ρ' st' H' v r, After ρ F H ρ' F' H' → St0 g H0 F' ρ' δ st' σ H' → RepR g F' ρ' δ σ H H' r v → PostO g W H0 F' ρ' δ σ H' (k r st') Q → R v H') : PostE g W H0 F ρ δ σ H (ma st) R := by
  unfold bnd at h
  match e : ma st, h with
  | none, h => exact h
  | some (.ok r, st'), h => exact fun v ρ' F' H' A S' R' => hk F' ρ' st' H' v r A S' R' (h.later A)
  | some (.ex x, st'), h => exact h
theorem PostO_bndE {ma : M (Option Int)} {k : Option Int → M Rv} {R : Option Int → Hp → Prop} {Q : VK} (h : PostE g W H0 F ρ δ σ H (bnd ma k st) Q)
    (hk : ∀ F' ρ' st' H' b, After ρ F H ρ' F' H' → St0 g H0 F' ρ' δ st' σ H' → PostE g W H0 F' ρ' δ σ H' (k b st') Q → R b H') : PostO g W H0 F ρ δ σ H (ma st) R := by
  unfold bnd at h
  match e : ma st, h with
  | none, h => exact h
  | some (.ok r, st'), h => exact fun ρ' F' H' A S' => hk F' ρ' st' H' r A S' (h.later A)
  | some (.ex x, st'), h => exact h
end
def gONone : DEnv → M (Option Int) := fun _ => ret none
def gOSome (ga : DEnv → M Rv) : DEnv → M (Option Int) := fun δ => bnd (ga δ) fun r => opt r.asI fun i => ret (some i)
abbrev K3 := DEnv → Rv → Option Int → Option Int → M Rv
def gSlice (ga : DEnv → M Rv) (gl gh : DEnv → M (Option Int)) (k : K3) : DEnv → M Rv := fun δ => bnd (ga δ) fun x => bnd (gl δ) fun lo => bnd (gh δ) fun hi => k δ x lo hi
def kSlS : K3 := fun _ x lo hi => opt x.asS fun s => if s.length ≤ LIM then rsv (cutQ s lo hi) else fail
def kSlT : K3 := fun _ x lo hi => opt x.asT fun s => ret (.fz (.tup (cutQ s lo hi)))
/-- a list, also one that is only read -/
def Rv.asR (δ : DEnv) (st : Sto) (r : Rv) : Option (List D) := match r with
  | .fz (.rol ds) => some ds
  | r => r.asL δ st
theorem asR_v {g : GG} {H0 F H H1 : Hp} {ρ : List Addr} {δ : DEnv} {σ : L2.St} {st : Sto} {r : Rv} {v : V} {ds : List D} (S : St0 g H0 F ρ δ st σ H) (R : RepR g F ρ δ σ H1 H r v) (e : r.asR δ st = some ds) : ∃ a vs, v = .ref a ∧ SqL g.K H a vs ∧ Reps g F ρ ds vs := by
  unfold Rv.asR at e
  split at e
  · cases e
    cases R with
    | rol h1 h2 => exact ⟨_, _, rfl, Same.seq S.fs h1, h2⟩
  · obtain ⟨a, vs, h1, h2, h3⟩ := asL_v S R e
    exact ⟨a, vs, h1, .of h2, h3⟩
def kSlL : K3 := fun δ x lo hi st => (opt (x.asR δ st) fun s => ret (.ow (.lst (cutQ s lo hi)))) st
def kSl : K3 := fun δ x lo hi => if x.asS.isSome then kSlS δ x lo hi else if x.asT.isSome then kSlT δ x lo hi else kSlL δ x lo hi
section
variable {C : Ctx} {a b : Expr} {ga gb : DEnv → M Rv} {gl gh : DEnv → M (Option Int)} {pos p2 : Pos} {lo hi : Option Expr}
theorem do_none : DO C none gONone := fun X W ok tk => ⟨fun pins s σ H Q I h => by
  obtain ⟨H0, F, ρ, δ, st, S, P⟩ := h
  exact (po_none (X := X)).run pins s σ H Q I (P ρ F H .refl S)⟩
theorem do_some (h : DE C a ga) : DO C (some a) (gOSome ga) := fun X W ok tk => ⟨fun pins s σ H Q I hh => by
  refine (po_some (h X W ok tk)).run pins s σ H Q I ?_
  obtain ⟨H0, F, ρ, δ, st, S, P⟩ := hh
  refine ⟨H0, F, ρ, δ, st, S, PostE_bndO P fun F' ρ' st' H' v r A S' R' P' => ?_⟩
  cases e : r.asI with
  | none => rw [e] at P'; exact P'.elim
  | some i =>
    rw [e] at P'
    exact ⟨i, asI_v R' e, P' ρ' F' H' .refl S'⟩⟩
theorem cut_full {α : Type} {xs : List α} {lo hi : Option Int} (h : HT.sIx xs.length 0 lo = 0 ∧ HT.sIx xs.length xs.length hi = xs.length) : cutQ xs lo hi = xs := by
  unfold cutQ
  rw [h.1, h.2]
  simp
theorem sl_ok (X : Cx) {W : WX} {H0 F H Hs : Hp} {ρ : List Addr} {δ : DEnv} {st : Sto} {σ : L2.St} {x : Rv} {v : V} {lo hi : Option Int} {Q : VK} (S : St0 (xg X) H0 F ρ δ st σ H) (R : RepR (xg X) F ρ δ σ Hs H x v) (P : PostE (xg X) W H0 F ρ δ σ H (kSl δ x lo hi st) Q) :
    rSlL X.K v lo hi H Q ∨ rSlA X.K v lo hi H Q ∨ rSlS v lo hi H Q := by
  unfold kSl at P
  split at P
  · unfold kSlS at P
    obtain ⟨s, e1, P⟩ := opt_ok P
    split at P
    · rename_i hl
      refine .inr (.inr ⟨_, asS_v R e1, by rw [len_mk, lim_eq]; exact hl, ?_⟩)
      have := pS S P
      unfold cutS
      rw [len_mk]
      exact this
    · exact P.elim
  · split at P
    · unfold kSlT at P
      obtain ⟨s, e1, P⟩ := opt_ok P
      obtain ⟨p, vs, rfl, h1, f1, h2⟩ := asT_v S R e1
      refine .inr (.inl ⟨p, vs, rfl, h1, fun hw => ?_, fun _ q nq => new_tup P S (cut_reps h2 lo hi) q nq⟩)
      rw [← h2.length] at hw
      rw [cut_full hw] at P
      exact PostE.done0 P S (.tup f1 h2)
    · unfold kSlL at P
      obtain ⟨s, e1, P⟩ := opt_ok P
      obtain ⟨p, vs, rfl, h1, h2⟩ := asR_v S R e1
      exact .inl ⟨p, vs, rfl, h1, fun q nq => new_own P S (cut_reps h2 lo hi) q nq⟩
theorem de_slice (ha : DE C a ga) (hl : DO C lo gl) (hh : DO C hi gh) : DE C (.Subscript a (.Slice lo hi none p2) pos) (gSlice ga gl gh kSl) := fun X W ok tk => by
  refine peW (pe_slice (sl_list.or (sl_tupA.or sl_str)) (ha X W ok tk) (hl X W ok tk) (hh X W ok tk)) fun σ H Q h => rdE_bnd h fun H0 F ρ δ st Hs H v r S R P => ?_
  refine ⟨H0, F, ρ, δ, st, S, PostO_bndE P fun F1 ρ1 st1 H1 l A1 S1 P1 => ?_⟩
  refine ⟨H0, F1, ρ1, δ, st1, S1, PostO_bndE P1 fun F2 ρ2 st2 H2 u A2 S2 P2 => ?_⟩
  exact sl_ok X S2 ((R.mono A1).mono A2) P2
end

/-! ### built-in functions -/
/-- a built-in function of values that are frozen or viewed -/
abbrev KN := DEnv → List Rv → M Rv
def FnK (C : Ctx) (f : Value) (k : KN) : Prop := ∀ X, CtxOk C X → ∃ r, CallR X f r ∧ ∀ W H0 F ρ δ st σ H Hs rs vs Q, St0 (xg X) H0 F ρ δ st σ H → RepRs (xg X) F ρ δ σ Hs H rs vs → PostE (xg X) W H0 F ρ δ σ H (k δ rs st) Q → r vs H Q
def gFn (k : KN) (gs : DEnv → M (List Rv)) : DEnv → M Rv := fun δ => bnd (gs δ) fun rs => k δ rs
theorem FnK.or {C : Ctx} {f : Value} {k k' : KN} {p : DEnv → List Rv → Bool} (h : FnK C f k) (h' : FnK C f k') : FnK C f (fun δ rs => if p δ rs then k δ rs else k' δ rs) := fun X ok => by
  obtain ⟨r, h1, h2⟩ := h X ok
  obtain ⟨r', h1', h2'⟩ := h' X ok
  refine ⟨_, h1.or h1', fun W H0 F ρ δ st σ H Hs rs vs Q S R P => ?_⟩
  dsimp only at P
  split at P
  · exact .inl (h2 W H0 F ρ δ st σ H Hs rs vs Q S R P)
  · exact .inr (h2' W H0 F ρ δ st σ H Hs rs vs Q S R P)
/-- a global name of the def -/
def Glo (C : Ctx) (x : Str) : Prop := C.sc.names.lookup x = some .globalImplicit
theorem CtxOk.glo {C : Ctx} {X : Cx} (ok : CtxOk C X) {x : Str} (h : Glo C x) : Gl X x := by
  unfold Gl Env.kindOf
  rw [ok.sc]
  exact h
theorem star_none {e : Expr} {es : List Expr} {env : Env} {pos : Pos} (h : es.all noStar = true) : (backTo pos (starEach es env)).any (·.1) = false := by
  induction es with
  | nil => rfl
  | cons e es ih =>
    rw [List.all_cons, Bool.and_eq_true] at h
    rw [star_eq h.1]
    show (false || (backTo pos (starEach es env)).any (·.1)) = false
    rw [ih h.2]
    rfl
section
variable {C : Ctx} {e : Expr} {es : List Expr} {gs : DEnv → M (List Rv)} {x : Str} {p pos : Pos} {k : KN}
theorem fn_rd {X : Cx} {W : WX} {r : List V → Hp → VK → Prop} (hk : ∀ W H0 F ρ δ st σ H Hs rs vs Q, St0 (xg X) H0 F ρ δ st σ H → RepRs (xg X) F ρ δ σ Hs H rs vs → PostE (xg X) W H0 F ρ δ σ H (k δ rs st) Q → r vs H Q) {σ : L2.St} {H : Hp} {Q : VK} (h : rdE (xg X) W (gFn k gs) σ H Q) :
    tCB r (rdA (xg X) W gs) σ H Q := by
  obtain ⟨H0, F, ρ, δ, st, S, P⟩ := h
  exact ⟨H0, F, ρ, δ, st, S, PostA_bndE P fun F' ρ' st' H' vs rs A S' R' P' => hk W H0 F' ρ' δ st' σ H' H rs vs Q S' R' P'⟩
theorem de_fn {id : String} (hf : FnK C (.builtin id) k) (hg : Glo C x) (hm : C.mg x = none) (hv : bootBuiltins x = some (.builtin id)) (ha : DA C (e :: es) gs) (hn : x ≠ "__name__" := by decide) (hdb : (x == ("__debug__" : Str)) = false := by decide)
    (hs : noStar e = true := by rfl) (hss : es.all noStar = true := by rfl) : DE C (.Call (.Name x p) (e :: es) [] pos) (gFn k gs) := fun X W ok tk => by
  obtain ⟨r, h1, h2⟩ := hf X ok
  exact peW (pe_callB h1 (ok.glo hg) (by rw [ok.mg]; exact hm) hv (ha X W ok tk) hn hdb (star_eq hs) (star_none (e := e) hss)) fun σ H Q h => fn_rd h2 h
theorem de_fnT {T : String} (hf : FnK C (.type T) k) (hg : Glo C x) (hm : C.mg x = none) (hv : bootBuiltins x = some (.type T)) (ha : DA C (e :: es) gs) (hn : x ≠ "__name__" := by decide) (hdb : (x == ("__debug__" : Str)) = false := by decide)
    (hs : noStar e = true := by rfl) (hss : es.all noStar = true := by rfl) : DE C (.Call (.Name x p) (e :: es) [] pos) (gFn k gs) := fun X W ok tk => by
  obtain ⟨r, h1, h2⟩ := hf X ok
  exact peW (pe_callTy h1 (ok.glo hg) (by rw [ok.mg]; exact hm) hv (ha X W ok tk) hn hdb (star_eq hs) (star_none (e := e) hss)) fun σ H Q h => fn_rd h2 h
/-- a built-in class as a value -/
theorem de_ty {T : String} (hg : Glo C x) (hm : C.mg x = none) (hv : bootBuiltins x = some (.type T)) (hn : x ≠ "__name__" := by decide) (hdb : (x == ("__debug__" : Str)) = false := by decide) : DE C (.Name x pos) (gC (.ty T)) := fun X W ok tk =>
  peW (pe_bltn (v := .ty T) (ok.glo hg) (by rw [ok.mg]; exact hm) hv rfl hn hdb) fun σ H Q ⟨H0, F, ρ, δ, st, S, h⟩ => PostE.done0 h S .ty
end
theorem RepRs.one {g : GG} {F : Hp} {ρ : List Addr} {δ : DEnv} {σ : L2.St} {H1 H : Hp} {r : Rv} {vs : List V} (R : RepRs g F ρ δ σ H1 H [r] vs) : ∃ v, vs = [v] ∧ RepR g F ρ δ σ H1 H r v := by
  cases R with
  | cons h t => cases t; exact ⟨_, rfl, h⟩
theorem RepRs.two {g : GG} {F : Hp} {ρ : List Addr} {δ : DEnv} {σ : L2.St} {H1 H : Hp} {r r' : Rv} {vs : List V} (R : RepRs g F ρ δ σ H1 H [r, r'] vs) : ∃ v v', vs = [v, v'] ∧ RepR g F ρ δ σ H1 H r v ∧ RepR g F ρ δ σ H1 H r' v' := by
  cases R with
  | cons h t => cases t with
    | cons h' t' => cases t'; exact ⟨_, _, rfl, h, h'⟩
/-- one argument -/
def k1 (f : DEnv → Rv → M Rv) : KN := fun δ rs => match rs with
  | [r] => f δ r
  | _ => fail
def k2 (f : DEnv → Rv → Rv → M Rv) : KN := fun δ rs => match rs with
  | [r, r'] => f δ r r'
  | _ => fail
section
variable {C : Ctx}
theorem fnK1 {f : Value} {h : DEnv → Rv → M Rv} (hh : ∀ X, CtxOk C X → ∃ r, CallR X f r ∧ ∀ W H0 F ρ δ st σ H Hs x v Q, St0 (xg X) H0 F ρ δ st σ H → RepR (xg X) F ρ δ σ Hs H x v → PostE (xg X) W H0 F ρ δ σ H (h δ x st) Q → r [v] H Q) : FnK C f (k1 h) := fun X ok => by
  obtain ⟨r, h1, h2⟩ := hh X ok
  refine ⟨r, h1, fun W H0 F ρ δ st σ H Hs rs vs Q S R P => ?_⟩
  match rs, R, P with
  | [x], R, P =>
    obtain ⟨v, rfl, R1⟩ := R.one
    exact h2 W H0 F ρ δ st σ H Hs x v Q S R1 P
  | [], _, P => exact P.elim
  | _ :: _ :: _, _, P => exact P.elim
theorem fnK2 {f : Value} {h : DEnv → Rv → Rv → M Rv} (hh : ∀ X, CtxOk C X → ∃ r, CallR X f r ∧ ∀ W H0 F ρ δ st σ H Hs x y v u Q, St0 (xg X) H0 F ρ δ st σ H → RepR (xg X) F ρ δ σ Hs H x v → RepR (xg X) F ρ δ σ Hs H y u → PostE (xg X) W H0 F ρ δ σ H (h δ x y st) Q → r [v, u] H Q) : FnK C f (k2 h) := fun X ok => by
  obtain ⟨r, h1, h2⟩ := hh X ok
  refine ⟨r, h1, fun W H0 F ρ δ st σ H Hs rs vs Q S R P => ?_⟩
  match rs, R, P with
  | [x, y], R, P =>
    obtain ⟨v, u, rfl, R1, R2⟩ := R.two
    exact h2 W H0 F ρ δ st σ H Hs x y v u Q S R1 R2 P
  | [], _, P => exact P.elim
  | [_], _, P => exact P.elim
  | _ :: _ :: _ :: _, _, P => exact P.elim
/-- len -/
def kLen : KN := k1 fun δ x st => (if x.asS.isSome then opt x.asS fun s => (if s.length ≤ LIM then riv s.length else fail) else opt (x.asQ δ st) fun ds => riv ds.length) st
theorem ok_len : FnK C (.builtin "len") kLen := fnK1 fun X ok => ⟨_, call_len, fun W H0 F ρ δ st σ H Hs x v Q S R P => by
  split at P
  · obtain ⟨s, e1, P⟩ := opt_ok P
    split at P
    · rename_i hl
      rw [asS_v R e1]
      exact ⟨_, s.length, rfl, ⟨by rw [len_mk, lim_eq]; exact hl, (len_mk s).symm⟩, pI S P⟩
    · exact P.elim
  · obtain ⟨ds, e1, P⟩ := opt_ok P
    obtain ⟨p, vs, rfl, h1, h2⟩ := asQ_v S R e1
    refine ⟨_, ds.length, rfl, ?_, pI S P⟩
    rw [h2.length]
    rcases h1 with h1 | h1
    · exact .inl ⟨vs, h1, rfl⟩
    · exact .inr ⟨vs, h1, rfl⟩⟩
/-- list(list or tuple) -/
def kList : KN := k1 fun δ x st => (opt (x.asQ δ st) fun ds => ret (.ow (.lst ds))) st
theorem ok_list : FnK C (.type "list") kList := fnK1 fun X ok => ⟨_, call_list_of, fun W H0 F ρ δ st σ H Hs x v Q S R P => by
  obtain ⟨ds, e1, P⟩ := opt_ok P
  obtain ⟨p, vs, rfl, h1, h2⟩ := asQ_v S R e1
  exact ⟨p, vs, rfl, h1, fun q nq => new_own P S h2 q nq⟩⟩
/-- tuple(list or tuple) -/
def kTuple : KN := k1 fun δ x st => (if x.asT.isSome then opt x.asT fun ds => ret (.fz (.tup ds)) else opt (x.asR δ st) fun ds => ret (.fz (.tup ds))) st
theorem ok_tuple : FnK C (.type "tuple") kTuple := fnK1 fun X ok => ⟨_, call_tuple_of, fun W H0 F ρ δ st σ H Hs x v Q S R P => by
  split at P
  · obtain ⟨ds, e1, P⟩ := opt_ok P
    obtain ⟨p, vs, rfl, h1, f1, h2⟩ := asT_v S R e1
    exact ⟨p, vs, rfl, .inr ⟨h1, PostE.done0 P S (.tup f1 h2)⟩⟩
  · obtain ⟨ds, e1, P⟩ := opt_ok P
    obtain ⟨p, vs, rfl, h1, h2⟩ := asR_v S R e1
    exact ⟨p, vs, rfl, .inl ⟨h1, fun q nq => new_tup P S h2 q nq⟩⟩⟩
/-- lists of one kind -/
def ints? : List D → Option (List Int)
  | [] => some []
  | .int i :: ds => (ints? ds).map (i :: ·)
  | _ => none
def bls? : List D → Option (List Bool)
  | [] => some []
  | .bl i :: ds => (bls? ds).map (i :: ·)
  | _ => none
def strs? : List D → Option (List (List Nat))
  | [] => some []
  | .str i :: ds => (strs? ds).map (i :: ·)
  | _ => none
theorem ints_eq : ∀ {ds : List D} {ns : List Int}, ints? ds = some ns → ds = ns.map D.int
  | [], _, e => by cases e; rfl
  | .int i :: ds, ns, e => by
    unfold ints? at e
    cases q : ints? ds with
    | none => rw [q] at e; cases e
    | some ms => rw [q] at e; cases e; rw [ints_eq q]; rfl
  | .non :: _, _, e => by cases e
  | .bl _ :: _, _, e => by cases e
  | .str _ :: _, _, e => by cases e
  | .tup _ :: _, _, e => by cases e
  | .lst _ :: _, _, e => by cases e
  | .rol _ :: _, _, e => by cases e
  | .obj _ _ :: _, _, e => by cases e
  | .dk _ :: _, _, e => by cases e
  | .dt _ :: _, _, e => by cases e
  | .loc _ :: _, _, e => by cases e
  | .ty _ :: _, _, e => by cases e
theorem bls_eq : ∀ {ds : List D} {ns : List Bool}, bls? ds = some ns → ds = ns.map D.bl
  | [], _, e => by cases e; rfl
  | .bl i :: ds, ns, e => by
    unfold bls? at e
    cases q : bls? ds with
    | none => rw [q] at e; cases e
    | some ms => rw [q] at e; cases e; rw [bls_eq q]; rfl
  | .non :: _, _, e => by cases e
  | .int _ :: _, _, e => by cases e
  | .str _ :: _, _, e => by cases e
  | .tup _ :: _, _, e => by cases e
  | .lst _ :: _, _, e => by cases e
  | .rol _ :: _, _, e => by cases e
  | .obj _ _ :: _, _, e => by cases e
  | .dk _ :: _, _, e => by cases e
  | .dt _ :: _, _, e => by cases e
  | .loc _ :: _, _, e => by cases e
  | .ty _ :: _, _, e => by cases e
theorem strs_eq : ∀ {ds : List D} {ns : List (List Nat)}, strs? ds = some ns → ds = ns.map D.str
  | [], _, e => by cases e; rfl
  | .str i :: ds, ns, e => by
    unfold strs? at e
    cases q : strs? ds with
    | none => rw [q] at e; cases e
    | some ms => rw [q] at e; cases e; rw [strs_eq q]; rfl
  | .non :: _, _, e => by cases e
  | .int _ :: _, _, e => by cases e
  | .bl _ :: _, _, e => by cases e
  | .tup _ :: _, _, e => by cases e
  | .lst _ :: _, _, e => by cases e
  | .rol _ :: _, _, e => by cases e
  | .obj _ _ :: _, _, e => by cases e
  | .dk _ :: _, _, e => by cases e
  | .dt _ :: _, _, e => by cases e
  | .loc _ :: _, _, e => by cases e
  | .ty _ :: _, _, e => by cases e
theorem ints_map : ∀ ns : List Int, ints? (ns.map D.int) = some ns
  | [] => rfl
  | n :: ns => by
    show (ints? (ns.map D.int)).map (n :: ·) = _
    rw [ints_map ns] <;> rfl
theorem bls_map : ∀ ns : List Bool, bls? (ns.map D.bl) = some ns
  | [] => rfl
  | n :: ns => by
    show (bls? (ns.map D.bl)).map (n :: ·) = _
    rw [bls_map ns] <;> rfl
theorem strs_map : ∀ ns : List (List Nat), strs? (ns.map D.str) = some ns
  | [] => rfl
  | n :: ns => by
    show (strs? (ns.map D.str)).map (n :: ·) = _
    rw [strs_map ns] <;> rfl
/-- all, any of a list of bools; sum of ints -/
def kAll : KN := k1 fun δ x st => (opt (x.asR δ st) fun ds => opt (bls? ds) fun bs => rbv (bs.all id)) st
def kAny : KN := k1 fun δ x st => (opt (x.asR δ st) fun ds => opt (bls? ds) fun bs => rbv (bs.any id)) st
def kSum : KN := k1 fun δ x st => (opt (x.asR δ st) fun ds => opt (ints? ds) fun bs => riv bs.sum) st
theorem ok_all : FnK C (.builtin "all") kAll := fnK1 fun X ok => ⟨_, cr_all ok.calm, fun W H0 F ρ δ st σ H Hs x v Q S R P => by
  obtain ⟨ds, e1, P⟩ := opt_ok P
  obtain ⟨bs, e2, P⟩ := opt_ok P
  obtain ⟨p, vs, rfl, h1, h2⟩ := asR_v S R e1
  rw [bls_eq e2] at h2
  rw [Reps.bls h2] at h1
  exact ⟨p, bs, rfl, h1, pB S P⟩⟩
theorem ok_any : FnK C (.builtin "any") kAny := fnK1 fun X ok => ⟨_, cr_any ok.calm, fun W H0 F ρ δ st σ H Hs x v Q S R P => by
  obtain ⟨ds, e1, P⟩ := opt_ok P
  obtain ⟨bs, e2, P⟩ := opt_ok P
  obtain ⟨p, vs, rfl, h1, h2⟩ := asR_v S R e1
  rw [bls_eq e2] at h2
  rw [Reps.bls h2] at h1
  exact ⟨p, bs, rfl, h1, pB S P⟩⟩
theorem ok_sum : FnK C (.builtin "sum") kSum := fnK1 fun X ok => ⟨_, cr_sum ok.calm, fun W H0 F ρ δ st σ H Hs x v Q S R P => by
  obtain ⟨ds, e1, P⟩ := opt_ok P
  obtain ⟨bs, e2, P⟩ := opt_ok P
  obtain ⟨p, vs, rfl, h1, h2⟩ := asR_v S R e1
  rw [ints_eq e2] at h2
  rw [Reps.ints h2] at h1
  exact ⟨p, bs, rfl, h1, pI S P⟩⟩
/-- int of a bool or int; str of an int; abs; ord -/
def kInt : KN := k1 fun _ x => if x.asB.isSome then opt x.asB fun b => riv (if b then 1 else 0) else opt x.asI fun i => riv i
theorem ok_int : FnK C (.type "int") kInt := fnK1 fun X ok => ⟨_, call_int1, fun W H0 F ρ δ st σ H Hs x v Q S R P => by
  split at P
  · obtain ⟨b, e1, P⟩ := opt_ok P
    exact .inr ⟨b, by rw [asB_v R e1], pI S P⟩
  · obtain ⟨b, e1, P⟩ := opt_ok P
    exact .inl ⟨b, by rw [asI_v R e1], pI S P⟩⟩
def kAbs : KN := k1 fun _ x => opt x.asI fun i => riv (if i < 0 then -i else i)
theorem ok_abs : FnK C (.builtin "abs") kAbs := fnK1 fun X ok => ⟨_, call_abs, fun W H0 F ρ δ st σ H Hs x v Q S R P => by
  obtain ⟨b, e1, P⟩ := opt_ok P
  exact ⟨b, by rw [asI_v R e1], pI S P⟩⟩
def kOrd : KN := k1 fun _ x => opt x.asS fun s => match s with
  | [c] => riv (c : Nat)
  | _ => fail
theorem ok_ord : FnK C (.builtin "ord") kOrd := fnK1 fun X ok => ⟨_, call_ord, fun W H0 F ρ δ st σ H Hs x v Q S R P => by
  obtain ⟨s, e1, P⟩ := opt_ok P
  match s, e1, P with
  | [c], e1, P => exact ⟨_, by rw [asS_v R e1], rfl, pI S P⟩
  | [], _, P => exact P.elim
  | _ :: _ :: _, _, P => exact P.elim⟩
/-- isinstance -/
def D.tyN : D → Option String
  | .non => some "NoneType"
  | .bl _ => some "bool"
  | .int _ => some "int"
  | .str _ => some "str"
  | .tup _ => some "tuple"
  | .lst _ => some "list"
  | .dk _ => some "dict"
  | .dt _ => some "dict"
  | _ => none
def isA (t n : String) : Bool := t == n || (t == "bool" && n == "int")
def tyNames : List String := ["NoneType", "bool", "int", "str", "tuple", "list", "dict"]
theorem kitB_all : ∀ t ∈ tyNames, ∀ n ∈ tyNames, n ≠ "NoneType" → kitB t n = some (isA t n) := by decide +kernel
/-- the built-in classes' names -/
def tys? : List D → Option (List String)
  | [] => some []
  | .ty n :: ds => if n ∈ tyNames ∧ n ≠ "NoneType" then (tys? ds).map (n :: ·) else none
  | _ => none
theorem tyN_mem {d : D} {t : String} (h : d.tyN = some t) : t ∈ tyNames := by
  cases d <;> cases h <;> decide
theorem tyN_v {K : PySem.W.Frag} {mg : Str → Option Value} {H : Hp} {ρ : List Addr} {d : D} {v : V} {t : String} (r : Rep ⟨K, mg⟩ H ρ d v) (h : d.tyN = some t) : TyX K H v (.type t) := by
  cases r <;> first | (cases h; done) | skip
  · cases h; exact .base .non
  · cases h; exact .base (.bl _)
  · cases h; exact .base (.int _)
  · cases h; exact .base (.str _)
  · cases h
    rename_i hs _
    rcases hs with (hs | ⟨o, hs⟩) | ⟨o, its, n, h1, h2, _⟩
    · exact .base (.tup hs)
    · exact .fTuple hs
    · exact .kTuple h1 h2
  · cases h; exact .base (.lst (by assumption))
  · cases h; exact .base (.dK (by assumption))
  · cases h; exact .base (.dT (by assumption))
theorem call_isiR {X : Cx} : CallR X (.builtin "isinstance") (fun xs H Q => ∃ (x : V) (tp : Addr) (cs : List V) (t : Value) (us : List Value) (b : Bool), xs = [x, .ref tp] ∧ SqT X.K H tp cs ∧ Paired ClsV cs us ∧ TyX X.K H x t ∧ PySem.W.kitAny X.K t us = some b ∧ Q (.bl b) H) := by
  intro pins s σ H xs us Q I r h
  obtain ⟨x, tp, cs, t, ws, b, rfl, hT, k, ty, e, q⟩ := h
  obtain ⟨u1, u2, rfl, r1, r2⟩ := vals2 r
  cases (show u2 = Value.ref tp from r2)
  obtain ⟨P, Z, p, hx⟩ := kit_of I r1 ty
  obtain ⟨its, rv, ⟨o, h1, h2, n, h3⟩, _⟩ := I.tuple hT
  have e3 := ClsV.all k rv
  subst e3
  obtain ⟨oc, od, dt, sl⟩ := o
  simp only at h2 h3
  subst h2 h3
  exact PySem.W.kia_tup Z I.kIn p h1 e hx fun tk => ⟨.bl b, H, I.tok tk, rfl, q⟩
theorem tys_v {g : GG} {F : Hp} {ρ : List Addr} {K : PySem.W.Frag} {t : String} (ht : t ∈ tyNames) : ∀ {ds : List D} {vs : List V} {ns : List String}, Reps g F ρ ds vs → tys? ds = some ns → ∃ us, Paired ClsV vs us ∧ PySem.W.kitAny K (.type t) us = some (ns.any (isA t))
  | [], _, _, r, e => by cases e; cases r; exact ⟨[], .nil, rfl⟩
  | .ty n :: ds, _, ns, r, e => by
    unfold tys? at e
    split at e
    · rename_i hn
      cases q : tys? ds with
      | none => rw [q] at e; cases e
      | some ms =>
        rw [q] at e; cases e
        cases r with
        | cons r1 r2 =>
          cases r1
          obtain ⟨us, h1, h2⟩ := tys_v (K := K) ht r2 q
          refine ⟨.type n :: us, .cons (.ty n) h1, ?_⟩
          have k : PySem.W.kitOne K (.type t) (.type n) = some (isA t n) := kit_ty (kitB_all t ht n hn.1 hn.2)
          rw [PySem.W.kitAny, k, List.any_cons]
          cases q2 : isA t n with
          | true => rfl
          | false => rw [Bool.false_or]; exact h2
    · cases e
  | .non :: _, _, _, _, e => by cases e
  | .bl _ :: _, _, _, _, e => by cases e
  | .int _ :: _, _, _, _, e => by cases e
  | .str _ :: _, _, _, _, e => by cases e
  | .tup _ :: _, _, _, _, e => by cases e
  | .lst _ :: _, _, _, _, e => by cases e
  | .rol _ :: _, _, _, _, e => by cases e
  | .obj _ _ :: _, _, _, _, e => by cases e
  | .dk _ :: _, _, _, _, e => by cases e
  | .dt _ :: _, _, _, _, e => by cases e
  | .loc _ :: _, _, _, _, e => by cases e
def kIsi1 : KN := k2 fun δ x y => opt (x.dat δ) fun d => opt d.tyN fun t => match y with
  | .fz (.ty n) => if n ∈ tyNames ∧ n ≠ "NoneType" then rbv (isA t n) else fail
  | _ => fail
def kIsiT : KN := k2 fun δ x y => opt (x.dat δ) fun d => opt d.tyN fun t => opt y.asT fun ds => opt (tys? ds) fun ns => rbv (ns.any (isA t))
def Rv.isTy : Rv → Bool
  | .fz (.ty _) => true
  | _ => false
def kIsi : KN := fun δ rs => if (rs.getD 1 (.vw 0)).isTy then kIsi1 δ rs else kIsiT δ rs
theorem ok_isi1 : FnK C (.builtin "isinstance") kIsi1 := fnK2 fun X ok => ⟨_, call_isi, fun W H0 F ρ δ st σ H Hs x y v u Q S R R' P => by
  obtain ⟨d, e1, P⟩ := opt_ok P
  obtain ⟨t, e2, P⟩ := opt_ok P
  match y, R', P with
  | .fz (.ty n), R', P =>
    dsimp only at P
    split at P
    · rename_i hn
      cases R'
      exact ⟨v, _, .type t, .type n, isA t n, rfl, .ty n, tyN_v (dat_v S R e1) e2, kit_ty (kitB_all t (tyN_mem e2) n hn.1 hn.2), pB S P⟩
    · exact P.elim
  | .ow _, _, P => exact P.elim
  | .vw _, _, P => exact P.elim
  | .fz .non, _, P => exact P.elim
  | .fz (.bl _), _, P => exact P.elim
  | .fz (.int _), _, P => exact P.elim
  | .fz (.str _), _, P => exact P.elim
  | .fz (.tup _), _, P => exact P.elim
  | .fz (.lst _), _, P => exact P.elim
  | .fz (.rol _), _, P => exact P.elim
  | .fz (.obj _ _), _, P => exact P.elim
  | .fz (.dk _), _, P => exact P.elim
  | .fz (.dt _), _, P => exact P.elim
  | .fz (.loc _), _, P => exact P.elim⟩
theorem ok_isiT : FnK C (.builtin "isinstance") kIsiT := fnK2 fun X ok => ⟨_, call_isiR, fun W H0 F ρ δ st σ H Hs x y v u Q S R R' P => by
  obtain ⟨d, e1, P⟩ := opt_ok P
  obtain ⟨t, e2, P⟩ := opt_ok P
  obtain ⟨ds, e3, P⟩ := opt_ok P
  obtain ⟨ns, e4, P⟩ := opt_ok P
  obtain ⟨p, vs, rfl, h1, f1, h2⟩ := asT_v S R' e3
  obtain ⟨us, k1, k2⟩ := tys_v (K := X.K) (tyN_mem e2) h2 e4
  exact ⟨v, p, vs, .type t, us, _, rfl, h1, k1, tyN_v (dat_v S R e1) e2, k2, pB S P⟩⟩
theorem ok_isi : FnK C (.builtin "isinstance") kIsi := ok_isi1.or ok_isiT
end

/-! ### a def's promise -/
def StoS (g : GG) (F : Hp) (ρ : List Addr) (st : Sto) (H : Hp) : Prop := Same F H ∧ StoOk g F ρ st H
/-- a result: frozen, or new and owned by nobody -/
def RepF (g : GG) (F : Hp) (ρ : List Addr) (H1 H : Hp) : Rv → V → Prop
  | .fz d, v => Rep g F ρ d v
  | .ow c, v => ∃ a, v = .ref a ∧ F a = none ∧ a ∉ ρ ∧ H1 a = none ∧ ConOk g F ρ H a c
  | .vw _, _ => False
def PostF (g : GG) (F : Hp) (ρ : List Addr) (H : Hp) (o : Option (Res Rv × Sto)) (Q : VK) (E : XK) : Prop := match o with
  | none => False
  | some (.ok r, st') => ∀ v ρ' F' H', After ρ F H ρ' F' H' → StoS g F' ρ' st' H' → RepF g F' ρ' H H' r v → Q v H'
  | some (.ex x, st') => ∀ c d ρ' F' H', After ρ F H ρ' F' H' → StoS g F' ρ' st' H' → RepX g F' ρ' H' x c d → E c d H'
/-- f: what it hands back for arguments and cells -/
def spD (g : GG) (n : Nat) (f : List D → M Rv) : Sp := fun vs H Q E => ∃ F ρ ds st, StoS g F ρ st H ∧ Reps g F ρ ds vs ∧ ds.length = n ∧ PostF g F ρ H (f ds st) Q E
theorem spD_len {g : GG} {n : Nat} {f : List D → M Rv} {vs : List V} {H : Hp} {Q : VK} {E : XK} (h : spD g n f vs H Q E) : vs.length = n := by
  obtain ⟨F, ρ, ds, st, S, R, e, _⟩ := h
  rw [← R.length, e]
/-- the name x stands for a def that keeps f's promise -/
def FnD (C : Ctx) (x : Str) (n : Nat) (f : List D → M Rv) : Prop :=
  ∃ (fa : Addr) (fd : FuncData) (ps : List Str), C.mg x = some (.ref fa) ∧ PySem.W.keepIn C.K (.ref fa) = true ∧ Binds C.K fd ps [] ∧ FnOk C.P C.w C.K C.mg C.base (L2.CX C.P C.w) C.k fa fd ps (spD C.gg n f)
theorem St0.after {g : GG} {H0 F H F' H' : Hp} {ρ ρ' : List Addr} {δ : DEnv} {st st' : Sto} {σ : L2.St} (S : St0 g H0 F ρ δ st σ H) (A : After ρ F H ρ' F' H') (S' : StoS g F' ρ' st' H') : St0 g H0 F' ρ' δ st' σ H' := by
  refine ⟨S'.1, S.len, fun i sv q => ?_, S.dist, S'.2⟩
  obtain ⟨v, h1, h2⟩ := S.slot i sv q
  refine ⟨v, h1, ?_⟩
  cases sv with
  | fz d => exact Rep.mono A.ff A.ex h2
  | ow c =>
    obtain ⟨a, e1, e2, e3, e4, e5⟩ := h2
    obtain ⟨o, ho⟩ := e5.there
    exact ⟨a, e1, A.unf ho e3 e2, A.nmem e3 ho, e4, e5.mono e3 A⟩
theorem PostF_of {g : GG} {W : WX} {H0 F H : Hp} {ρ : List Addr} {δ : DEnv} {st : Sto} {σ : L2.St} {o : Option (Res Rv × Sto)} {Q : VK} (S : St0 g H0 F ρ δ st σ H) (P : PostE g W H0 F ρ δ σ H o Q) : PostF g F ρ H o Q (WE W σ) := by
  match o, P with
  | some (.ok r, st'), P =>
    intro v ρ' F' H' A S' R'
    refine P v ρ' F' H' A (S.after A S') ?_
    cases r with
    | fz d => exact R'
    | ow c => exact R'
    | vw i => exact R'.elim
  | some (.ex x, st'), P => exact fun c d ρ' F' H' A S' R' => P c d ρ' F' H' A (S.after A S') R'
def gCall (n : Nat) (f : List D → M Rv) (gs : DEnv → M (List Rv)) : DEnv → M Rv := fun δ => bnd (gs δ) fun rs => opt (allD rs) fun ds => if ds.length = n then f ds else fail
section
variable {C : Ctx} {e : Expr} {es : List Expr} {gs : DEnv → M (List Rv)} {x : Str} {p pos : Pos} {f : List D → M Rv} {n : Nat}
theorem call_rd {X : Cx} {W : WX} {σ : L2.St} {H : Hp} {Q : VK} (h : rdE (xg X) W (gCall n f gs) σ H Q) : tCallS (spD (xg X) n f) (WE W) (rdA (xg X) W gs) σ H Q := by
  obtain ⟨H0, F, ρ, δ, st, S, P⟩ := h
  refine ⟨H0, F, ρ, δ, st, S, PostA_bndE P fun F' ρ' st' H' vs rs A S' R' P' => ?_⟩
  obtain ⟨ds, e2, P2⟩ := opt_ok P'
  split at P2
  · rename_i hl
    exact ⟨F', ρ', ds, st', ⟨S'.fs, S'.sto⟩, allD_ok R' e2, hl, PostF_of S' P2⟩
  · exact P2.elim
theorem de_call (hf : FnD C x n f) (hg : Glo C x) (ha : DA C (e :: es) gs) (hdb : (x == ("__debug__" : Str)) = false := by decide) (hs : noStar e = true := by rfl) (hss : es.all noStar = true := by rfl) :
    DE C (.Call (.Name x p) (e :: es) [] pos) (gCall n f gs) := fun X W ok tk => by
  obtain ⟨fa, fd, ps, h1, h2, h3, h4⟩ := hf
  have e1 : C.gg = xg X := by unfold Ctx.gg xg; rw [ok.K, ok.mg]
  have h4' : FnOk X.prog X.w X.K X.mg X.base (L2.CX X.prog X.w) C.k fa fd ps (spD (xg X) n f) := by
    rw [ok.prog, ok.w, ok.base, ← e1, ok.K, ok.mg]
    exact h4
  exact peW (pe_callS h4' ok.room (ok.glo hg) (by rw [ok.mg]; exact h1) (by rw [ok.K]; exact h2) (by rw [ok.K]; exact h3) (fun σ => passAt tk σ) (ha X W ok tk) hdb (star_eq hs) (star_none (e := e) hss)) fun σ H Q h => call_rd h
end
end DL

/-! DL6: statements, defs. -/
namespace DL
open PySem PySem.Spec PyProof.Rows L2 TL
set_option autoImplicit false

/-- where a statement leads -/
inductive Fl where
  | nx (δ : DEnv) | rt (r : Rv) | bk (δ : DEnv) | ct (δ : DEnv) | ex (x : Exn) (δ : DEnv)
abbrev GS := DEnv → Sto → Option (Fl × Sto)
/-- where a def began, and what a loop leans on -/
structure En where
  H0 : Hp
  F0 : Hp
  ρ0 : List Addr
  Fb : Hp
  ρb : List Addr
structure Lat (E : En) (ρ : List Addr) (F H : Hp) : Prop where
  a : After E.ρ0 E.F0 E.H0 ρ F H
  b : Same E.Fb F
  p : ∃ l, ρ = E.ρb ++ l
theorem Lat.step {E : En} {ρ ρ' : List Addr} {F H F' H' : Hp} (l : Lat E ρ F H) (A : After ρ F H ρ' F' H') : Lat E ρ' F' H' := by
  refine ⟨l.a.trans A, l.b.trans A.ff, ?_⟩
  obtain ⟨x, hx⟩ := l.p
  obtain ⟨y, hy⟩ := A.ex
  exact ⟨x ++ y, by rw [hy, hx, List.append_assoc]⟩
def PostS (g : GG) (W : WX) (E : En) (o : Option (Fl × Sto)) (D : Ends) : Prop := match o with
  | none => False
  | some (.nx δ', st') => ∀ σ' ρ' F' H', Lat E ρ' F' H' → St0 g E.H0 F' ρ' δ' st' σ' H' → D.nx σ' H'
  | some (.bk δ', st') => ∀ σ' ρ' F' H', Lat E ρ' F' H' → St0 g E.H0 F' ρ' δ' st' σ' H' → D.bk σ' H'
  | some (.ct δ', st') => ∀ σ' ρ' F' H', Lat E ρ' F' H' → St0 g E.H0 F' ρ' δ' st' σ' H' → D.ct σ' H'
  | some (.rt r, st') => ∀ v ρ' F' H', Lat E ρ' F' H' → StoS g F' ρ' st' H' → RepF g F' ρ' E.H0 H' r v → D.rt v H'
  | some (.ex x δ', st') => ∀ c d σ' ρ' F' H', Lat E ρ' F' H' → St0 g E.H0 F' ρ' δ' st' σ' H' → RepX g F' ρ' H' x c d → W c d σ' H'
def rdS (g : GG) (W : WX) (gs : GS) : TS := fun D σ H => ∃ E F ρ δ st, Lat E ρ F H ∧ St0 g E.H0 F ρ δ st σ H ∧ PostS g W E (gs δ st) D
def DS (C : Ctx) (s : Stmt) (gs : GS) : Prop := ∀ X W, CtxOk C X → Takes X W → PS X s (rdS (xg X) W gs)
def DSs (C : Ctx) (ss : List Stmt) (gs : GS) : Prop := ∀ X W, CtxOk C X → Takes X W → PSs X ss (rdS (xg X) W gs)

/-! ### sequences -/
def sNext : GS := fun δ st => some (.nx δ, st)
def sSeq (a b : GS) : GS := fun δ st => match a δ st with
  | some (.nx δ', st') => b δ' st'
  | o => o
/-- an expression's value, then a statement -/
def sBnd {α : Type} (m : M α) (δ : DEnv) (k : α → Sto → Option (Fl × Sto)) : Sto → Option (Fl × Sto) := fun st => match m st with
  | none => none
  | some (.ok a, st') => k a st'
  | some (.ex x, st') => some (.ex x δ, st')
section
variable {g : GG} {W : WX} {E : En} {F F' H H' H1 : Hp} {ρ ρ' : List Addr} {δ : DEnv} {σ : L2.St} {st st' : Sto} {r : Rv} {rs : List Rv} {v : V} {vs : List V} {D : Ends}
theorem PostS_seq {a b : GS} (A : Lat E ρ F H) (P : PostS g W E (sSeq a b δ st) D) : PostS g W E (a δ st) { D with nx := rdS g W b D } := by
  unfold sSeq at P
  match e : a δ st, P with
  | none, P => exact P
  | some (.nx δ', st'), P => exact fun σ' ρ' F' H' A' S' => ⟨E, F', ρ', δ', st', A', S', P⟩
  | some (.bk δ', st'), P => exact P
  | some (.ct δ', st'), P => exact P
  | some (.rt r, st'), P => exact P
  | some (.ex x δ', st'), P => exact P
theorem PostS_bnd {m : M Rv} {k : Rv → Sto → Option (Fl × Sto)} {R : V → Hp → Prop} (A : Lat E ρ F H) (P : PostS g W E (sBnd m δ k st) D)
    (hk : ∀ F' ρ' st' H' v r, After ρ F H ρ' F' H' → Lat E ρ' F' H' → St0 g E.H0 F' ρ' δ st' σ H' → RepR g F' ρ' δ σ H H' r v → PostS g W E (k r st') D → R v H') : PostE g W E.H0 F ρ δ σ H (m st) R := by
  unfold sBnd at P
  match e : m st, P with
  | none, P => exact P
  | some (.ok r, st'), P => exact fun v ρ' F' H' A' S' R' => hk F' ρ' st' H' v r A' (A.step A') S' R' P
  | some (.ex x, st'), P => exact fun c d ρ' F' H' A' S' R' => P c d σ ρ' F' H' (A.step A') S' R'
theorem PostS_bndT {m : M Bool} {k : Bool → Sto → Option (Fl × Sto)} {R : Bool → Hp → Prop} (A : Lat E ρ F H) (P : PostS g W E (sBnd m δ k st) D)
    (hk : ∀ F' ρ' st' H' b, Lat E ρ' F' H' → St0 g E.H0 F' ρ' δ st' σ H' → PostS g W E (k b st') D → R b H') : PostT g W E.H0 F ρ δ σ H (m st) R := by
  unfold sBnd at P
  match e : m st, P with
  | none, P => exact P
  | some (.ok r, st'), P => exact fun ρ' F' H' A' S' => hk F' ρ' st' H' r (A.step A') S' P
  | some (.ex x, st'), P => exact fun c d ρ' F' H' A' S' R' => P c d σ ρ' F' H' (A.step A') S' R'
end
section
variable {C : Ctx} {s : Stmt} {ss : List Stmt} {a b : GS} {e c : Expr} {ga : DEnv → M Rv} {gt : DEnv → M Bool} {pos : Pos}
theorem dss_nil : DSs C [] sNext := fun X W ok tk => pssW pss_nil fun D σ H ⟨E, F, ρ, δ, st, A, S, P⟩ => P σ ρ F H A S
theorem dss_cons (h : DS C s a) (hs : DSs C ss b) : DSs C (s :: ss) (sSeq a b) := fun X W ok tk => by
  refine pssW (pss_cons (h X W ok tk) (hs X W ok tk)) fun D σ H ⟨E, F, ρ, δ, st, A, S, P⟩ => ?_
  exact ⟨E, F, ρ, δ, st, A, S, PostS_seq A P⟩
theorem dss_one (h : DS C s a) : DSs C [s] a := fun X W ok tk => pss_one (h X W ok tk)
theorem ds_pass : DS C (.Pass pos) sNext := fun X W ok tk => psW ps_pass fun D σ H ⟨E, F, ρ, δ, st, A, S, P⟩ => P σ ρ F H A S
theorem ds_break : DS C (.Break pos) (fun δ st => some (.bk δ, st)) := fun X W ok tk => psW ps_break fun D σ H ⟨E, F, ρ, δ, st, A, S, P⟩ => P σ ρ F H A S
theorem ds_continue : DS C (.Continue pos) (fun δ st => some (.ct δ, st)) := fun X W ok tk => psW ps_continue fun D σ H ⟨E, F, ρ, δ, st, A, S, P⟩ => P σ ρ F H A S
theorem ds_never : DS C s (fun _ _ => none) := fun X W ok tk => psW ps_never fun D σ H ⟨E, F, ρ, δ, st, A, S, P⟩ => P.elim
theorem ds_doc {x : Str} {j pos pos'} : DS C (.Expr (.Constant (.str x) j pos) pos') sNext := fun X W ok tk => psW ps_doc fun D σ H ⟨E, F, ρ, δ, st, A, S, P⟩ => P σ ρ F H A S
/-! ### if -/
def sIf (gt : DEnv → M Bool) (a b : GS) : GS := fun δ => sBnd (gt δ) δ fun c => if c then a δ else b δ
variable {sa sb : List Stmt}
theorem ds_if (hc : DT C c gt) (ha : DSs C sa a) (hb : DSs C sb b) : DS C (.If c sa sb pos) (sIf gt a b) := fun X W ok tk => by
  refine psW (ps_if (hc X W ok tk) (ha X W ok tk) (hb X W ok tk)) fun D σ H ⟨E, F, ρ, δ, st, A, S, P⟩ => ?_
  refine ⟨E.H0, F, ρ, δ, st, S, PostS_bndT A P fun F' ρ' st' H' t A' S' P' => ?_⟩
  cases t with
  | true => simp only [if_true] at P' ⊢; exact ⟨E, F', ρ', δ, st', A', S', P'⟩
  | false => simp only [Bool.false_eq_true, if_false] at P' ⊢; exact ⟨E, F', ρ', δ, st', A', S', P'⟩
/-! ### an expression alone; return -/
def sExpr (ga : DEnv → M Rv) : GS := fun δ => sBnd (ga δ) δ fun _ st => some (.nx δ, st)
/-- a comprehension whose value is dropped is another statement -/
def noComp : Expr → Bool
  | .ListComp .. => false
  | .SetComp .. => false
  | .DictComp .. => false
  | _ => true
theorem swaps_none {e : Expr} {t : Option Expr} {l : Nat} {env : Env} (h : noComp e = true) : swapsWith e t l env = pure false := by
  cases e <;> first | rfl | cases h
theorem ds_expr (ha : DE C e ga) (hn : noComp e = true := by rfl) : DS C (.Expr e pos) (sExpr ga) := fun X W ok tk => by
  refine psW (ps_expr (ha X W ok tk) (swaps_none hn)) fun D σ H ⟨E, F, ρ, δ, st, A, S, P⟩ => ?_
  exact ⟨E.H0, F, ρ, δ, st, S, PostS_bnd A P fun F' ρ' st' H' v r A' A2 S' R' P' => P' σ ρ' F' H' A2 S'⟩
/-- what is handed back: what slot i owns is let go -/
def Rv.out (δ : DEnv) : Rv → Option Rv
  | .fz d => some (.fz d)
  | .ow c => some (.ow c)
  | .vw i => (ownAt δ i).map .ow
def sRet (ga : DEnv → M Rv) : GS := fun δ => sBnd (ga δ) δ fun r st => match r.out δ with
  | some r => some (.rt r, st)
  | none => none
theorem out_v {g : GG} {H0 F F0 H H1 : Hp} {ρ ρ0 ρ1 : List Addr} {δ : DEnv} {σ : L2.St} {st : Sto} {r r' : Rv} {v : V} {F1 : Hp} (A0 : After ρ0 F0 H0 ρ1 F1 H1) (A : After ρ1 F1 H1 ρ F H) (S : St0 g H0 F ρ δ st σ H) (R : RepR g F ρ δ σ H1 H r v) (e : r.out δ = some r') : RepF g F ρ H0 H r' v := by
  cases r with
  | fz d => cases e; exact R
  | ow c =>
    cases e
    obtain ⟨a, e1, e2, e3, e4, e5⟩ := R
    exact ⟨a, e1, e2, e3, A0.back (fun z => e3 (A.mem (A0.mem z))) e4, e5⟩
  | vw i =>
    change (ownAt δ i).map Rv.ow = some r' at e
    cases q : ownAt δ i with
    | none => rw [q] at e; cases e
    | some c =>
      rw [q] at e; cases e
      unfold ownAt at q
      split at q
      · rename_i q2
        cases q
        obtain ⟨v', h1, h2⟩ := S.slot i _ q2
        rw [R.1] at h1; cases h1
        obtain ⟨a, e1, e2, e3, e4, e5⟩ := h2
        exact ⟨a, e1, e2, e3, e4, e5⟩
      · cases q
theorem ds_ret (ha : DE C e ga) : DS C (.Return (some e) pos) (sRet ga) := fun X W ok tk => by
  refine psW (ps_ret (ha X W ok tk)) fun D σ H ⟨E, F, ρ, δ, st, A, S, P⟩ => ?_
  refine ⟨E.H0, F, ρ, δ, st, S, PostS_bnd A P fun F' ρ' st' H' v r A' A2 S' R' P' => ?_⟩
  cases q : r.out δ with
  | none => rw [q] at P'; exact P'.elim
  | some r' =>
    rw [q] at P'
    exact P' v ρ' F' H' A2 ⟨S'.fs, S'.sto⟩ (out_v A.a A' S' R' q)
def sRetN : GS := fun _ st => some (.rt (.fz .non), st)
theorem ds_retN : DS C (.Return none pos) sRetN := fun X W ok tk => psW ps_retN fun D σ H ⟨E, F, ρ, δ, st, A, S, P⟩ => P .non ρ F H A ⟨S.fs, S.sto⟩ .non
end

/-! ### freezing what a slot owns -/
def frzS (i : Nat) (δ : DEnv) : DEnv := match ownAt δ i with
  | some c => δ.set i (some (.fz c.fz))
  | none => δ
def sFrz (is : List Nat) (a : GS) : GS := fun δ => a (is.foldl (fun δ i => frzS i δ) δ)
theorem frzS_ok {g : GG} {E : En} {F H : Hp} {ρ : List Addr} {δ : DEnv} {σ : L2.St} {st : Sto} (A : Lat E ρ F H) (S : St0 g E.H0 F ρ δ st σ H) (i : Nat) : ∃ F', Lat E ρ F' H ∧ St0 g E.H0 F' ρ (frzS i δ) st σ H := by
  unfold frzS
  cases q : ownAt δ i with
  | none => exact ⟨F, A, S⟩
  | some c =>
    unfold ownAt at q
    split at q
    · rename_i q2
      cases q
      obtain ⟨v, h1, a, rfl, e2, e3, e4, e5⟩ := S.slot i _ q2
      have e := same_frz (a := a) S.fs
      have p : ∃ l, ρ = ρ ++ l := ⟨[], by simp⟩
      have hi : i < δ.length := (List.getElem?_eq_some_iff.mp q2).1
      have key : ∀ (j : Nat) (sv : SV), (δ.set i (some (SV.fz c.fz)))[j]? = some (some sv) → (j = i ∧ sv = .fz c.fz) ∨ (j ≠ i ∧ δ[j]? = some (some sv)) := fun j sv h => by
        by_cases z : j = i
        · subst z
          rw [List.getElem?_set_self hi] at h
          cases h
          exact .inl ⟨rfl, rfl⟩
        · rw [List.getElem?_set_ne (Ne.symm z)] at h
          exact .inr ⟨z, h⟩
      refine ⟨frzAt F H a, ⟨⟨A.a.ff.trans e, fun b o k1 k2 => ?_, A.a.pre, A.a.hk⟩, A.b.trans e, A.p⟩, frz_same S.fs, by rw [List.length_set]; exact S.len, fun j sv h => ?_, fun j k b cj ck hj hk sj sk => ?_, ⟨S.sto.len, S.sto.nd, S.sto.there, fun n c' k => ?_⟩⟩
      · by_cases z : b = a
        · subst z; exact .inl e4
        · rw [frz_ne z] at k1; exact A.a.fn b o k1 k2
      · rcases key j sv h with ⟨rfl, rfl⟩ | ⟨z, h⟩
        · exact ⟨_, h1, e5.frz S.fs⟩
        · obtain ⟨u, u1, u2⟩ := S.slot j sv h
          refine ⟨u, u1, ?_⟩
          cases sv with
          | fz d => exact Rep.mono e p u2
          | ow c' =>
            obtain ⟨b, rfl, k2, k3, k4, k5⟩ := u2
            refine ⟨b, rfl, ?_, k3, k4, k5.frzF e⟩
            rw [frz_ne]
            · exact k2
            · rintro rfl
              exact z (S.dist j i b _ _ h q2 u1 h1)
      · rcases key j _ hj with ⟨_, z⟩ | ⟨_, hj⟩
        · cases z
        · rcases key k _ hk with ⟨_, z⟩ | ⟨_, hk⟩
          · cases z
          · exact S.dist j k b cj ck hj hk sj sk
      · obtain ⟨b, k1, k2, k3⟩ := S.sto.live n c' k
        refine ⟨b, k1, ?_, k3.frzF e⟩
        rw [frz_ne]
        · exact k2
        · rintro rfl
          exact e3 (List.mem_of_getElem? k1)
    · cases q
theorem frzs_ok {g : GG} {E : En} {H : Hp} {ρ : List Addr} {σ : L2.St} {st : Sto} : ∀ (is : List Nat) {F : Hp} {δ : DEnv}, Lat E ρ F H → St0 g E.H0 F ρ δ st σ H → ∃ F', Lat E ρ F' H ∧ St0 g E.H0 F' ρ (is.foldl (fun δ i => frzS i δ) δ) st σ H
  | [], F, δ, A, S => ⟨F, A, S⟩
  | i :: is, F, δ, A, S => by
    obtain ⟨F1, A1, S1⟩ := frzS_ok A S i
    exact frzs_ok is A1 S1
theorem ds_frz {C : Ctx} {s : Stmt} {a : GS} (is : List Nat) (h : DS C s a) : DS C s (sFrz is a) := fun X W ok tk => psW (h X W ok tk) fun D σ H ⟨E, F, ρ, δ, st, A, S, P⟩ => by
  obtain ⟨F1, A1, S1⟩ := frzs_ok is A S
  exact ⟨E, F1, ρ, _, st, A1, S1, P⟩
theorem dss_frz {C : Ctx} {s : List Stmt} {a : GS} (is : List Nat) (h : DSs C s a) : DSs C s (sFrz is a) := fun X W ok tk => pssW (h X W ok tk) fun D σ H ⟨E, F, ρ, δ, st, A, S, P⟩ => by
  obtain ⟨F1, A1, S1⟩ := frzs_ok is A S
  exact ⟨E, F1, ρ, _, st, A1, S1, P⟩

/-! ### stores to names -/
/-- a slot takes a value -/
def Rv.sv : Rv → Option SV
  | .fz d => some (.fz d)
  | .ow c => some (.ow c)
  | .vw _ => none
def setR (i : Nat) (r : Rv) (δ : DEnv) : Option DEnv := r.sv.map fun s => δ.set i (some s)
theorem set_ok {g : GG} {H0 F0 F H F1 H1 : Hp} {ρ0 ρ ρ1 : List Addr} {δ δ' : DEnv} {σ : L2.St} {st st1 : Sto} {i : Nat} {r : Rv} {v : V} (A0 : ∀ c, r = .ow c → After ρ0 F0 H0 ρ1 F1 H1) (S1 : St0 g H0 F1 ρ1 δ st1 σ H1) (A : After ρ1 F1 H1 ρ F H) (S : St0 g H0 F ρ δ st σ H) (R : RepR g F ρ δ σ H1 H r v) (e : setR i r δ = some δ') : St0 g H0 F ρ δ' st (σ.set i (some v)) H := by
  unfold setR at e
  cases q : r.sv with
  | none => rw [q] at e; cases e
  | some sv =>
    rw [q] at e
    obtain rfl : δ.set i (some sv) = δ' := Option.some.inj e
    by_cases hi : i < δ.length
    · have hi2 : i < σ.length := by rw [S.len]; exact hi
      have key : ∀ (j : Nat) (s : SV), (δ.set i (some sv))[j]? = some (some s) → (j = i ∧ s = sv) ∨ (j ≠ i ∧ δ[j]? = some (some s)) := fun j s h => by
        by_cases z : j = i
        · subst z
          rw [List.getElem?_set_self hi] at h
          cases h
          exact .inl ⟨rfl, rfl⟩
        · rw [List.getElem?_set_ne (Ne.symm z)] at h
          exact .inr ⟨z, h⟩
      have keyS : ∀ (j : Nat), j ≠ i → (σ.set i (some v))[j]? = σ[j]? := fun j z => List.getElem?_set_ne (Ne.symm z)
      have keyI : (σ.set i (some v))[i]? = some (some v) := List.getElem?_set_self hi2
      have slot : SlotOk g H0 F ρ H sv v := by
        cases r with
        | fz d => cases q; exact R
        | ow c =>
          cases q
          obtain ⟨a, e1, e2, e3, e4, e5⟩ := R
          exact ⟨a, e1, e2, e3, (A0 c rfl).back (fun z => e3 (A.mem ((A0 c rfl).mem z))) e4, e5⟩
        | vw j => cases q
      refine ⟨S.fs, by rw [List.length_set, List.length_set]; exact S.len, fun j s h => ?_, fun j k b cj ck hj hk sj sk => ?_, S.sto⟩
      · rcases key j s h with ⟨rfl, rfl⟩ | ⟨z, h⟩
        · exact ⟨v, keyI, slot⟩
        · rw [keyS j z]; exact S.slot j s h
      · -- a new own value differs from the old ones
        have new : ∀ (j : Nat) (b : Addr) (cj ci : Con), δ[j]? = some (some (.ow cj)) → σ[j]? = some (some (.ref b)) → sv = .ow ci → v = .ref b → False := fun j b cj ci h1 h2 h3 h4 => by
          subst h3
          cases r with
          | fz d => cases q
          | vw j => cases q
          | ow c =>
            obtain ⟨a, e1, e2, e3, e4, e5⟩ := R
            rw [h4] at e1; cases e1
            obtain ⟨u, u1, u2⟩ := S1.slot j _ h1
            rw [h2] at u1; cases u1
            obtain ⟨a', k1, _, _, _, k5⟩ := u2
            cases k1
            obtain ⟨o, ho⟩ := k5.there
            rw [e4] at ho; cases ho
        rcases key j _ hj with ⟨y1, z1⟩ | ⟨y1, z1⟩
        · rcases key k _ hk with ⟨y2, z2⟩ | ⟨y2, z2⟩
          · rw [y1, y2]
          · rw [y1, keyI] at sj; cases sj
            rw [keyS k y2] at sk
            exact (new k b ck cj z2 sk z1.symm rfl).elim
        · rcases key k _ hk with ⟨y2, z2⟩ | ⟨y2, z2⟩
          · rw [y2, keyI] at sk; cases sk
            rw [keyS j y1] at sj
            exact (new j b cj ck z1 sj z2.symm rfl).elim
          · rw [keyS j y1] at sj
            rw [keyS k y2] at sk
            exact S.dist j k b cj ck z1 z2 sj sk
    · have h1 : δ.set i (some sv) = δ := List.set_eq_of_length_le (Nat.le_of_not_lt hi)
      have h2 : σ.set i (some v) = σ := List.set_eq_of_length_le (by rw [S.len]; exact Nat.le_of_not_lt hi)
      rw [h1, h2]
      exact S
def sSet (i : Nat) (ga : DEnv → M Rv) : GS := fun δ => sBnd (ga δ) δ fun r st => match setR i r δ with
  | some δ' => some (.nx δ', st)
  | none => none
section
variable {C : Ctx} {e : Expr} {ga : DEnv → M Rv} {pos pos' : Pos} {i : Nat} {x : Str}
theorem set_rd {X : Cx} {W : WX} {D : Ends} {σ : L2.St} {H : Hp} (h : rdS (xg X) W (sSet i ga) D σ H) : tAsg (rdE (xg X) W ga) (L2.gName i) D σ H := by
  obtain ⟨E, F, ρ, δ, st, A, S, P⟩ := h
  refine ⟨E.H0, F, ρ, δ, st, S, PostS_bnd A P fun F' ρ' st' H' v r A' A2 S' R' P' => ?_⟩
  cases q : setR i r δ with
  | none => rw [q] at P'; exact P'.elim
  | some δ' =>
    rw [q] at P'
    exact P' (σ.set i (some v)) ρ' F' H' A2 (set_ok (fun _ _ => A.a) S A' S' R' q)
theorem ds_set (hi : C.N[i]? = some x) (hx : Stor C x) (ha : DE C e ga) (hn : noComp e = true := by rfl) : DS C (.Assign [.Name x pos'] e pos) (sSet i ga) := fun X W ok tk =>
  psW (ps_set (i := i) (by rw [ok.N]; exact ok.nd) (by rw [ok.N]; exact hi) (ok.loc hx) (ha X W ok tk) (swaps_none hn) (ok.fn hx)) fun D σ H h => set_rd h
end

/-! ### defs -/
def startD (N : List Str) (ds : List D) : DEnv := ds.map (fun d => some (.fz d)) ++ List.replicate (N.length - ds.length) none
def runB (N : List Str) (gs : GS) (ds : List D) : M Rv := fun st => match gs (startD N ds) st with
  | none => none
  | some (.nx _, st') => some (.ok (.fz .non), st')
  | some (.rt r, st') => some (.ok r, st')
  | some (.bk _, _) => none
  | some (.ct _, _) => none
  | some (.ex x _, st') => some (.ex x, st')
theorem start_ok {g : GG} {F H : Hp} {ρ : List Addr} {ds : List D} {vs : List V} {st : Sto} {N : List Str} (S : StoS g F ρ st H) (R : Reps g F ρ ds vs) : St0 g H F ρ (startD N ds) st (L2.start N vs) H := by
  have key : ∀ (i : Nat) (sv : SV), (startD N ds)[i]? = some (some sv) → ∃ d, ds[i]? = some d ∧ sv = .fz d := fun i sv h => by
    unfold startD at h
    by_cases hi : i < ds.length
    · rw [List.getElem?_append_left (by simpa using hi), List.getElem?_map] at h
      cases q : ds[i]? with
      | none => rw [q] at h; cases h
      | some d => rw [q] at h; cases h; exact ⟨d, rfl, rfl⟩
    · rw [List.getElem?_append_right (by simpa using hi), List.getElem?_replicate] at h
      split at h <;> cases h
  refine ⟨S.1, ?_, fun i sv h => ?_, fun i j a ci cj h _ _ _ => ?_, S.2⟩
  · unfold L2.start startD
    rw [List.length_append, List.length_append, List.length_map, List.length_map, List.length_replicate, List.length_replicate, R.length]
  · obtain ⟨d, h1, rfl⟩ := key i sv h
    obtain ⟨v, h2, h3⟩ := R.get h1
    refine ⟨v, ?_, h3⟩
    unfold L2.start
    have hi : i < vs.length := (List.getElem?_eq_some_iff.mp h2).1
    rw [List.getElem?_append_left (by simpa using hi), List.getElem?_map, h2]
    rfl
  · obtain ⟨d, _, z⟩ := key i _ h
    cases z
/-- THE RULE: a def by its body -/
theorem fnok {P : Program} {w : World} {K : PySem.W.Frag} {mg : Str → Option Value} {base : Heap} {x qual : Str} {stm : Stmt} {f : Addr} {fd : FuncData} {N ps : List Str} {k : Nat} {gs : GS}
    (Fn : Fun K x qual stm f fd) (Sc : FnScope N ps (defScope stm)) (hb : DSs ⟨P, w, K, mg, base, N, defScope stm, k, true⟩ (defBody stm) gs) :
    FnOk P w K mg base (L2.CX P w) (k + 1) f fd ps (spD ⟨K, mg⟩ ps.length (runB N gs)) := by
  refine Fn.okX Sc (fun vs H Q E h => spD_len h) fun cdv A outer s H vs Q E hr h => ?_
  obtain ⟨F, ρ, ds, st, S, R, hl, Po⟩ := h
  have ok : CtxOk ⟨P, w, K, mg, base, N, defScope stm, k, true⟩ (cxOf (L2.CX P w) P w K mg base N qual (defScope stm) f cdv A outer s H E) :=
    ⟨rfl, rfl, rfl, rfl, rfl, rfl, rfl, rfl, hr, passes_of rfl, Sc.nd, fun _ => rfl⟩
  refine ⟨_, hb _ (fun cls d _ H => E cls d H) ok (takes_of rfl rfl rfl (E := E) rfl), ?_⟩
  refine ⟨⟨H, F, ρ, F, ρ⟩, F, ρ, startD N ds, st, ⟨.refl, Same.refl F, ⟨[], by simp⟩⟩, start_ok S R, ?_⟩
  unfold runB at Po
  match e : gs (startD N ds) st, Po with
  | none, Po => exact Po
  | some (.nx δ', st'), Po => exact fun σ' ρ' F' H' A' S' => Po .non ρ' F' H' A'.a ⟨S'.fs, S'.sto⟩ .non
  | some (.rt r, st'), Po => exact fun v ρ' F' H' A' S' R' => Po v ρ' F' H' A'.a S' R'
  | some (.bk _, _), Po => exact Po.elim
  | some (.ct _, _), Po => exact Po.elim
  | some (.ex x δ', st'), Po => exact fun c d σ' ρ' F' H' A' S' R' => Po c d ρ' F' H' A'.a ⟨S'.fs, S'.sto⟩ R'
end DL

/-! DL7: what a slot owns is changed. -/
namespace DL
open PySem PySem.Spec PyProof.Rows L2 TL
set_option autoImplicit false

theorem own_at {δ : DEnv} {i : Nat} {c : Con} (e : ownAt δ i = some c) : δ[i]? = some (some (.ow c)) := by
  unfold ownAt at e
  split at e
  · cases e; assumption
  · cases e
/-- the object that slot i owns is changed -/
theorem own_upd {g : GG} {E : En} {F H : Hp} {ρ : List Addr} {δ : DEnv} {σ : L2.St} {st : Sto} {i : Nat} {c c' : Con} {a : Addr} {o : HO} (A : Lat E ρ F H) (S : St0 g E.H0 F ρ δ st σ H) (e : ownAt δ i = some c) (hs : σ[i]? = some (some (.ref a)))
    (k : ConOk g F ρ (upd H a o) a c') : Lat E ρ F (upd H a o) ∧ St0 g E.H0 F ρ (δ.set i (some (.ow c'))) st σ (upd H a o) := by
  have q := own_at e
  obtain ⟨v, h1, b, e1, e2, e3, e4, e5⟩ := S.slot i _ q
  rw [hs] at h1; cases h1; cases e1
  have hi : i < δ.length := (List.getElem?_eq_some_iff.mp q).1
  have key : ∀ (j : Nat) (s : SV), (δ.set i (some (.ow c')))[j]? = some (some s) → (j = i ∧ s = .ow c') ∨ (j ≠ i ∧ δ[j]? = some (some s)) := fun j s h => by
    by_cases z : j = i
    · subst z
      rw [List.getElem?_set_self hi] at h
      cases h
      exact .inl ⟨rfl, rfl⟩
    · rw [List.getElem?_set_ne (Ne.symm z)] at h
      exact .inr ⟨z, h⟩
  have ne : ∀ b o', E.H0 b = some o' → b ≠ a := fun b o' h z => by subst z; rw [e4] at h; cases h
  have fne : ∀ b o', F b = some o' → b ≠ a := fun b o' h z => by subst z; rw [e2] at h; cases h
  refine ⟨⟨⟨A.a.ff, A.a.fn, A.a.pre, fun b o' h n => ?_⟩, A.b, A.p⟩, fun b o' h => ?_, by rw [List.length_set]; exact S.len, fun j s h => ?_, fun j k b cj ck hj hk sj sk => ?_, S.sto.len, S.sto.nd, fun b hb => ?_, fun n cc h => ?_⟩
  · rw [upd_ne (ne b o' h)]; exact A.a.hk b o' h n
  · rw [upd_ne (fne b o' h)]; exact S.fs b o' h
  · rcases key j s h with ⟨rfl, rfl⟩ | ⟨z, h⟩
    · exact ⟨_, hs, a, rfl, e2, e3, e4, k⟩
    · obtain ⟨u, u1, u2⟩ := S.slot j s h
      refine ⟨u, u1, ?_⟩
      cases s with
      | fz d => exact u2
      | ow cc =>
        obtain ⟨b, rfl, k2, k3, k4, k5⟩ := u2
        have hb : b ≠ a := by
          rintro rfl
          exact z (S.dist j i b _ _ h q u1 hs)
        exact ⟨b, rfl, k2, k3, k4, k5.kept (Same.refl F) ⟨[], by simp⟩ fun o' h' => by rw [upd_ne hb]; exact h'⟩
  · have g1 : ∃ cc, δ[j]? = some (some (.ow cc)) := by
      rcases key j _ hj with ⟨y, z⟩ | ⟨y, z⟩
      · exact ⟨c, by rw [y]; exact q⟩
      · exact ⟨cj, z⟩
    have g2 : ∃ cc, δ[k]? = some (some (.ow cc)) := by
      rcases key k _ hk with ⟨y, z⟩ | ⟨y, z⟩
      · exact ⟨c, by rw [y]; exact q⟩
      · exact ⟨ck, z⟩
    obtain ⟨c1, g1⟩ := g1
    obtain ⟨c2, g2⟩ := g2
    exact S.dist j k b c1 c2 g1 g2 sj sk
  · have hb2 : b ≠ a := fun z => e3 (by rw [← z]; exact hb)
    rw [upd_ne hb2]
    exact S.sto.there b hb
  · obtain ⟨b, k1, k2, k3⟩ := S.sto.live n cc h
    have hb2 : b ≠ a := fun z => e3 (by rw [← z]; exact List.mem_of_getElem? k1)
    exact ⟨b, k1, k2, k3.kept (Same.refl F) ⟨[], by simp⟩ fun o' h' => by rw [upd_ne hb2]; exact h'⟩

/-- x.m(..) of a list that slot i owns: f tells the new list from the old one and the frozen arguments -/
def ownL (δ : DEnv) (i : Nat) : Option (List D) := match ownAt δ i with
  | some (.lst ds) => some ds
  | _ => none
def sOwn (i : Nat) (gs : DEnv → M (List Rv)) (f : List D → List D → Option (List D)) : GS := fun δ => match ownL δ i with
  | some ds => sBnd (gs δ) δ fun rs st => match (allD rs).bind (f ds) with
    | some ds' => some (.nx (δ.set i (some (.ow (.lst ds')))), st)
    | none => none
  | none => fun _ => none
theorem PostS_bndA {g : GG} {W : WX} {E : En} {F H : Hp} {ρ : List Addr} {δ : DEnv} {σ : L2.St} {st : Sto} {D : Ends} {m : M (List Rv)} {k : List Rv → Sto → Option (Fl × Sto)} {R : List V → Hp → Prop} (A : Lat E ρ F H) (P : PostS g W E (sBnd m δ k st) D)
    (hk : ∀ F' ρ' st' H' vs rs, After ρ F H ρ' F' H' → Lat E ρ' F' H' → St0 g E.H0 F' ρ' δ st' σ H' → RepRs g F' ρ' δ σ H H' rs vs → PostS g W E (k rs st') D → R vs H') : PostA g W E.H0 F ρ δ σ H (m st) R := by
  unfold sBnd at P
  match e : m st, P with
  | none, P => exact P
  | some (.ok r, st'), P => exact fun v ρ' F' H' A' S' R' => hk F' ρ' st' H' v r A' (A.step A') S' R' P
  | some (.ex x, st'), P => exact fun c d ρ' F' H' A' S' R' => P c d σ ρ' F' H' (A.step A') S' R'
/-- what a list's method does to the list -/
def MutL (r : V → List V → Hp → VK → Prop) (f : List D → List D → Option (List D)) : Prop := ∀ (g : GG) (F : Hp) (ρ : List Addr) (ds es ds' : List D) (xs vs : List V) (a : Addr) (H : Hp) (Q : VK), Same F H → H a = some (.lst xs) → Reps g F ρ ds xs → Reps g F ρ es vs → f ds es = some ds' →
  (∀ xs', Reps g F ρ ds' xs' → Q .non (upd H a (.lst xs'))) → r (.ref a) vs H Q
theorem star_all {es : List Expr} {env : Env} {pos : Pos} (h : es.all noStar = true) : (backTo pos (starEach es env)).all (fun x => !x.1) = true := by
  induction es with
  | nil => rfl
  | cons e es ih =>
    rw [List.all_cons, Bool.and_eq_true] at h
    rw [star_eq h.1]
    show (true && (backTo pos (starEach es env)).all (fun x => !x.1)) = true
    rw [ih h.2]
    rfl
theorem few_ok {es : List Expr} {env : Env} {pos : Pos} (h : es.all noStar = true) (hl : decide (es.length < 30) = true) : ((backTo pos (starEach es env)).all (fun x => !x.1) && (backToKw pos (keywordEach [] env)).all (fun x => x.1.isSome)
      && decide (es.length + ([] : List Keyword).length + (if ([] : List Keyword).isEmpty then 0 else 1) < 30)) = true := by
  rw [star_all h]
  show (true && true && decide (es.length + 0 + 0 < 30)) = true
  exact hl
section
variable {C : Ctx} {e : Expr} {es : List Expr} {gs : DEnv → M (List Rv)} {pos apos p1 p2 : Pos} {i : Nat} {x m : Str} {id : String} {f : List D → List D → Option (List D)}
theorem ds_own {r : V → List V → Hp → VK → Prop} (slot : Slot "list" m id) (hty : typeOf (.builtin id) = pure (.type "method_descriptor")) (hm : ∀ X, CtxOk C X → MtR X id r) (mu : MutL r f)
    (hN : C.N[i]? = some x) (hv : Vis C.sc x) (ha : DA C (e :: es) gs) (hd : (x == ("__debug__" : Str)) = false := by decide) (hcd : (x == ("__classdict__" : Str)) = false := by decide) (hs : (e :: es).all noStar = true := by rfl) (hl : decide ((e :: es).length < 30) = true := by rfl) (hline : (apos.endLine == p1.line) = true := by rfl) :
    DS C (.Expr (.Call (.Attribute (.Name x p2) m apos) (e :: es) [] p1) pos) (sOwn i gs f) := fun X W ok tk => by
  have hx : PE X (.Name x p2) (tVar i) := pe_var (i := i) (by rw [ok.N]; exact hN) (by rw [ok.sc]; exact hv) hd hcd
  have hs2 : noStar e = true ∧ es.all noStar = true := by rw [List.all_cons, Bool.and_eq_true] at hs; exact hs
  refine psW (ps_expr (pe_bm PySem.F.plainAttrs_list slot hty (hm X ok) hx (ha X W ok tk) rfl (few_ok hs hl) hline (star_eq hs2.1) (star_none (e := e) hs2.2)) rfl) fun D σ H ⟨E, F, ρ, δ, st, A, S, P⟩ => ?_
  unfold sOwn at P
  cases q : ownL δ i with
  | none => rw [q] at P; exact P.elim
  | some ds =>
    rw [q] at P
    have q2 : ownAt δ i = some (.lst ds) := by
      unfold ownL at q
      split at q
      · cases q; assumption
      · cases q
    obtain ⟨v, h1, a, rfl, e2, e3, e4, xs, e5, e6⟩ := S.slot i _ (own_at q2)
    refine ⟨_, h1, .inl ⟨rfl, xs, .of e5⟩, E.H0, F, ρ, δ, st, S, PostS_bndA A P fun F' ρ' st' H' vs rs A' A2 S' R' P' => ?_⟩
    obtain ⟨v', h1', a', e1', e2', e3', e4', xs', e5', e6'⟩ := S'.slot i _ (own_at q2)
    rw [h1] at h1'; cases h1'; cases e1'
    cases q3 : allD rs with
    | none => rw [q3] at P'; exact P'.elim
    | some es' =>
      rw [q3] at P'
      have r3 := allD_ok R' q3
      cases q4 : f ds es' with
      | none => rw [show (some es').bind (f ds) = f ds es' from rfl, q4] at P'; exact P'.elim
      | some ds' =>
        rw [show (some es').bind (f ds) = f ds es' from rfl, q4] at P'
        refine mu _ F' ρ' ds es' ds' xs' vs a H' _ S'.fs e5' e6' r3 q4 fun ys ry => ?_
        obtain ⟨A3, S3⟩ := own_upd (c' := .lst ds') (o := .lst ys) A2 S' q2 h1 ⟨ys, upd_same, ry⟩
        exact P' σ ρ' F' _ A3 S3
/-- without arguments -/
theorem ds_own0 {r : V → List V → Hp → VK → Prop} (slot : Slot "list" m id) (hty : typeOf (.builtin id) = pure (.type "method_descriptor")) (hm : ∀ X, CtxOk C X → MtR X id r) (mu : MutL r f)
    (hN : C.N[i]? = some x) (hv : Vis C.sc x) (hd : (x == ("__debug__" : Str)) = false := by decide) (hcd : (x == ("__classdict__" : Str)) = false := by decide) (hline : (apos.endLine == p1.line) = true := by rfl) :
    DS C (.Expr (.Call (.Attribute (.Name x p2) m apos) [] [] p1) pos) (sOwn i gNil f) := fun X W ok tk => by
  have hx : PE X (.Name x p2) (tVar i) := pe_var (i := i) (by rw [ok.N]; exact hN) (by rw [ok.sc]; exact hv) hd hcd
  refine psW (ps_expr (pe_bm0 PySem.F.plainAttrs_list slot hty (hm X ok) hx rfl hline) rfl) fun D σ H ⟨E, F, ρ, δ, st, A, S, P⟩ => ?_
  unfold sOwn at P
  cases q : ownL δ i with
  | none => rw [q] at P; exact P.elim
  | some ds =>
    rw [q] at P
    have q2 : ownAt δ i = some (.lst ds) := by
      unfold ownL at q
      split at q
      · cases q; assumption
      · cases q
    obtain ⟨v, h1, a, rfl, e2, e3, e4, xs, e5, e6⟩ := S.slot i _ (own_at q2)
    refine ⟨_, h1, .inl ⟨rfl, xs, .of e5⟩, ?_⟩
    change PostS (xg X) W E (match f ds [] with
      | some ds' => some (.nx (δ.set i (some (.ow (.lst ds')))), st)
      | none => none) D at P
    cases q4 : f ds [] with
    | none => rw [q4] at P; exact P.elim
    | some ds' =>
      rw [q4] at P
      refine mu _ F ρ ds [] ds' xs [] a H _ S.fs e5 e6 .nil q4 fun ys ry => ?_
      obtain ⟨A3, S3⟩ := own_upd (c' := .lst ds') (o := .lst ys) A S q2 h1 ⟨ys, upd_same, ry⟩
      exact P σ ρ F _ A3 S3
/-! the list's methods -/
def fAppend (ds es : List D) : Option (List D) := match es with
  | [e] => if ds.length < LIM then some (ds ++ [e]) else none
  | _ => none
theorem mu_append : MutL rAppend fAppend := fun g F ρ ds es ds' xs vs a H Q hs h1 r1 r2 e q => by
  unfold fAppend at e
  split at e
  · split at e
    · rename_i hl
      cases e
      cases r2 with
      | cons k1 k2 =>
        cases k2
        exact ⟨a, xs, _, rfl, rfl, h1, by rw [← r1.length, lim_eq]; exact hl, q _ (r1.append (.cons k1 .nil))⟩
    · cases e
  · cases e
theorem ds_append (hN : C.N[i]? = some x) (hv : Vis C.sc x) (ha : DA C [e] gs) (hd : (x == ("__debug__" : Str)) = false := by decide) (hcd : (x == ("__classdict__" : Str)) = false := by decide) (hs : [e].all noStar = true := by rfl) (hline : (apos.endLine == p1.line) = true := by rfl) :
    DS C (.Expr (.Call (.Attribute (.Name x p2) "append" apos) [e] [] p1) pos) (sOwn i gs fAppend) :=
  ds_own PySem.F.slot_list_append PySem.F.type_list_append (fun X ok => mt_append) mu_append hN hv ha hd hcd hs rfl hline
def fInsert (ds es : List D) : Option (List D) := match es with
  | [.int k, e] => if ds.length < LIM ∧ 0 ≤ k ∧ k < 2 ^ 63 then some (ds.take k.toNat ++ [e] ++ ds.drop k.toNat) else none
  | _ => none
theorem mu_insert : MutL (fun x vs H Q => ∃ (l : Addr) (xs : List V) (i : Int) (y : V), x = .ref l ∧ vs = [.int i, y] ∧ H l = some (.lst xs) ∧ xs.length < sizeLine ∧ 0 ≤ i ∧ i < 2 ^ 63 ∧
    Q .non (upd H l (.lst (xs.take i.toNat ++ [y] ++ xs.drop i.toNat)))) fInsert := fun g F ρ ds es ds' xs vs a H Q hs h1 r1 r2 e q => by
  unfold fInsert at e
  split at e
  · rename_i k d
    split at e
    · rename_i hl
      cases e
      cases r2 with
      | cons k1 k2 =>
        cases k2 with
        | cons k3 k4 =>
          cases k4
          cases k1
          exact ⟨a, xs, k, _, rfl, rfl, h1, by rw [← r1.length, lim_eq]; exact hl.1, hl.2.1, hl.2.2, q _ (((r1.take _).append (.cons k3 .nil)).append (r1.drop _))⟩
    · cases e
  · cases e
theorem ds_insert {e2 : Expr} (hN : C.N[i]? = some x) (hv : Vis C.sc x) (ha : DA C [e, e2] gs) (hd : (x == ("__debug__" : Str)) = false := by decide) (hcd : (x == ("__classdict__" : Str)) = false := by decide) (hs : [e, e2].all noStar = true := by rfl) (hline : (apos.endLine == p1.line) = true := by rfl) :
    DS C (.Expr (.Call (.Attribute (.Name x p2) "insert" apos) [e, e2] [] p1) pos) (sOwn i gs fInsert) :=
  ds_own PySem.F.slot_list_insert PySem.F.type_list_insert (fun X ok => mt_insert) mu_insert hN hv ha hd hcd hs rfl hline
def fExtend (ds es : List D) : Option (List D) := match es with
  | [.lst fs] => if ds.length + fs.length ≤ LIM then some (ds ++ fs) else none
  | _ => none
theorem mu_extend : MutL rExtend fExtend := fun g F ρ ds es ds' xs vs a H Q hs h1 r1 r2 e q => by
  unfold fExtend at e
  split at e
  · split at e
    · rename_i hl
      cases e
      cases r2 with
      | cons k1 k2 =>
        cases k2
        obtain ⟨b, ws, rfl, h2, r3⟩ := Rep.lst_v k1
        exact ⟨a, b, xs, ws, rfl, rfl, h1, hs _ _ h2, by rw [← r1.length, ← r3.length, lim_eq]; exact hl, q _ (r1.append r3)⟩
    · cases e
  · cases e
theorem ds_extend (hN : C.N[i]? = some x) (hv : Vis C.sc x) (ha : DA C [e] gs) (hd : (x == ("__debug__" : Str)) = false := by decide) (hcd : (x == ("__classdict__" : Str)) = false := by decide) (hs : [e].all noStar = true := by rfl) (hline : (apos.endLine == p1.line) = true := by rfl) :
    DS C (.Expr (.Call (.Attribute (.Name x p2) "extend" apos) [e] [] p1) pos) (sOwn i gs fExtend) :=
  ds_own PySem.F.slot_list_extend PySem.F.type_list_extend (fun X ok => mt_extend) mu_extend hN hv ha hd hcd hs rfl hline
def fClear (_ es : List D) : Option (List D) := match es with
  | [] => some []
  | _ => none
theorem mu_clear : MutL rClear fClear := fun g F ρ ds es ds' xs vs a H Q hs h1 r1 r2 e q => by
  unfold fClear at e
  split at e
  · cases e
    cases r2
    exact ⟨a, xs, rfl, rfl, h1, q [] .nil⟩
  · cases e
theorem ds_clear (hN : C.N[i]? = some x) (hv : Vis C.sc x) (hd : (x == ("__debug__" : Str)) = false := by decide) (hcd : (x == ("__classdict__" : Str)) = false := by decide) (hline : (apos.endLine == p1.line) = true := by rfl) :
    DS C (.Expr (.Call (.Attribute (.Name x p2) "clear" apos) [] [] p1) pos) (sOwn i gNil fClear) :=
  ds_own0 PySem.F.slot_list_clear PySem.F.type_list_clear (fun X ok => mt_clear) mu_clear hN hv hd hcd hline
end

/-! ### x[k] = e, x[k] op= e of a list that slot i owns -/
def setIx (ds : List D) (k : Int) (d : D) : Option (List D) := (ixN ds.length k).map fun j => ds.set j d
/-- the value first, then the index -/
def sSub (i : Nat) (ga gk : DEnv → M Rv) : GS := fun δ => match ownL δ i with
  | some ds => sBnd (gFrz ga δ) δ fun r => sBnd (gk δ) δ fun rk st => match (match r with | .fz d => rk.asI.bind fun k => setIx ds k d | _ => none) with
    | some ds' => some (.nx (δ.set i (some (.ow (.lst ds')))), st)
    | none => none
  | none => fun _ => none
theorem ownL_at {δ : DEnv} {i : Nat} {ds : List D} (q : ownL δ i = some ds) : ownAt δ i = some (.lst ds) := by
  unfold ownL at q
  split at q
  · cases q; assumption
  · cases q
section
variable {C : Ctx} {e k : Expr} {ga gk : DEnv → M Rv} {pos p1 p2 : Pos} {i : Nat} {x : Str}
theorem swapsSole {t e : Expr} {l : Nat} {env : Env} (h : noComp e = true) : swapsWithSole [t] e l env = pure false := swaps_none h
/-- no tuple is exchanged -/
def noTup : Expr → Bool
  | .Tuple .. => false
  | .List .. => false
  | _ => true
theorem swapped_none {t e : Expr} {env : Env} (h : noTup t = true) : swappedStores [t] e env = pure none := by
  cases t <;> first | (cases h; done) | (cases e <;> rfl)
theorem ds_sub (hN : C.N[i]? = some x) (hv : Vis C.sc x) (ha : DE C e ga) (hk : DE C k gk) (hd : (x == ("__debug__" : Str)) = false := by decide) (hcd : (x == ("__classdict__" : Str)) = false := by decide) (hn : noComp e = true := by rfl)
    (has : ∀ (env : Env) v, assign (.Subscript (.Name x p1) k p2) env v = (do
      let ov ← holding [v] (eval (.Name x p1) env)
      let iv ← holding [v, ov] (eval k env)
      standAt p2
      holding [v, ov, iv] (setItem ov iv v)
      release [v, ov, iv] []) := by intro _ _; rfl) :
    DS C (.Assign [.Subscript (.Name x p1) k p2] e pos) (sSub i ga gk) := fun X W ok tk => by
  have hx : PE X (.Name x p1) (tVar i) := pe_var (i := i) (by rw [ok.N]; exact hN) (by rw [ok.sc]; exact hv) hd hcd
  refine psW (ps_asg (de_frz ha X W ok tk) (pg_sub hx (hk X W ok tk) set_list (has X.env)) (swapsSole hn) (swapped_none rfl)) fun D σ H ⟨E, F, ρ, δ, st, A, S, P⟩ => ?_
  unfold sSub at P
  cases q : ownL δ i with
  | none => rw [q] at P; exact P.elim
  | some ds =>
    rw [q] at P
    have q2 := ownL_at q
    refine ⟨E.H0, F, ρ, δ, st, S, PostS_bnd A P fun F1 ρ1 st1 H1 v r A1 A1' S1 R1 P1 => ?_⟩
    obtain ⟨v1, h1, a, rfl, _⟩ := S1.slot i _ (own_at q2)
    refine ⟨_, h1, E.H0, F1, ρ1, δ, st1, S1, PostS_bnd A1' P1 fun F2 ρ2 st2 H2 u rk A2 A2' S2 R2 P2 => ?_⟩
    obtain ⟨v', h1', a', e1', e2', e3', e4', xs', e5', e6'⟩ := S2.slot i _ (own_at q2)
    rw [h1] at h1'; cases h1'; cases e1'
    cases r with
    | ow c => exact P2.elim
    | vw j => exact P2.elim
    | fz d =>
      cases q3 : rk.asI with
      | none => dsimp only at P2; rw [q3] at P2; exact P2.elim
      | some z =>
        dsimp only at P2
        rw [q3] at P2
        change PostS (xg X) W E (match setIx ds z d with
          | some ds' => some (.nx (δ.set i (some (.ow (.lst ds')))), st2)
          | none => none) D at P2
        cases q4 : setIx ds z d with
        | none => rw [q4] at P2; exact P2.elim
        | some ds' =>
          rw [q4] at P2
          unfold setIx at q4
          cases q5 : ixN ds.length z with
          | none => rw [q5] at q4; cases q4
          | some j =>
            rw [q5] at q4; cases q4
            refine ⟨a, xs', z, j, rfl, asI_v R2 q3, e5', by rw [← e6'.length]; exact q5, ?_⟩
            have ry : Reps (xg X) F2 ρ2 (ds.set j d) (xs'.set j v) := Reps.set (Rep.mono A2.ff A2.ex R1) j e6'
            obtain ⟨A3, S3⟩ := own_upd (c' := .lst (ds.set j d)) (o := .lst (xs'.set j v)) A2' S2 q2 h1 ⟨_, upd_same, ry⟩
            exact P2 σ ρ2 F2 _ A3 S3
end
/-! ### x op= e -/
def sAug (i : Nat) (k : K2) (ga : DEnv → M Rv) : GS := fun δ => match δ[i]? with
  | some (some (.fz d)) => sBnd (bnd (ga δ) fun y => k δ (.fz d) y) δ fun r st => match setR i r δ with
    | some δ' => some (.nx δ', st)
    | none => none
  | _ => fun _ => none
section
variable {C : Ctx} {e : Expr} {ga : DEnv → M Rv} {pos p1 : Pos} {i : Nat} {x : Str}
theorem ds_aug {op : Operator} {k : K2} (ho : IpK C op k) (hN : C.N[i]? = some x) (hx : Stor C x) (ha : DE C e ga) : DS C (.AugAssign (.Name x p1) op e pos) (sAug i k ga) := fun X W ok tk => by
  obtain ⟨r, h1, h2⟩ := ho X ok
  refine psW (ps_aug (i := i) (by rw [ok.N]; exact ok.nd) (by rw [ok.N]; exact hN) (ok.loc hx) (ha X W ok tk) h1 (ok.fn hx)) fun D σ H ⟨E, F, ρ, δ, st, A, S, P⟩ => ?_
  unfold sAug at P
  match q : δ[i]?, P with
  | some (some (.fz d)), P =>
    obtain ⟨v, e1, e2⟩ := S.slot i _ q
    have P1 : PostE (xg X) W E.H0 F ρ δ σ H (bnd (ga δ) (fun y => k δ (.fz d) y) st) (fun z H' => D.nx (σ.set i (some z)) H') := PostS_bnd A P fun F' ρ' st' H' v r A' A2 S' R' P' => by
      cases q : setR i r δ with
      | none => rw [q] at P'; exact P'.elim
      | some δ' =>
        rw [q] at P'
        exact P' (σ.set i (some v)) ρ' F' H' A2 (set_ok (fun _ _ => A.a) S A' S' R' q)
    refine ⟨v, e1, E.H0, F, ρ, δ, st, S, PostE_bnd P1 fun F' ρ' st' H' u y A' S' R' P' => ?_⟩
    exact h2 W E.H0 F' ρ' δ st' σ H' H H (.fz d) y v u _ S' (Rep.mono A'.ff A'.ex e2) R' P'
  | some (some (.ow _)), P => exact P.elim
  | some none, P => exact P.elim
  | none, P => exact P.elim
theorem ip_add : IpK C .Add (kOr kAddI kAddS isII) := fun X ok => ⟨_, iop_add.or iop_add_str, fun W H0 F ρ δ st σ H Hs Ht x y v u Q S R R' P => by
  unfold kOr at P
  split at P
  · exact .inl (kI_ok (X := X) (fun W H0 F ρ δ st σ H i j Q S P => ⟨i, j, rfl, rfl, pI S P⟩) W H0 F ρ δ st σ H Hs Ht x y v u Q S R R' P)
  · obtain ⟨r, h1, h2⟩ := ok_addS (C := C) X ok
    refine .inr ?_
    unfold kAddS at P
    obtain ⟨s, e1, P⟩ := opt_ok P
    obtain ⟨t, e2, P⟩ := opt_ok P
    split at P
    · rename_i h
      refine ⟨_, _, asS_v R e1, asS_v R' e2, by rw [len_mk, len_mk, lim_eq]; exact h, ?_⟩
      rw [app_str]
      exact pS S P
    · exact P.elim⟩
theorem ip_sub : IpK C .Sub kSub := fun X ok => ⟨_, iop_sub, kI_ok fun W H0 F ρ δ st σ H i j Q S P => ⟨i, j, rfl, rfl, pI S P⟩⟩
theorem ip_mul : IpK C .Mult (kI fun i j => if decide (-(2 ^ 64) < i ∧ i < 2 ^ 64) || decide (-(2 ^ 64) < j ∧ j < 2 ^ 64) then riv (i * j) else fail) := fun X ok => ⟨_, iop_mul, kI_ok fun W H0 F ρ δ st σ H i j Q S P => by
  split at P
  · rename_i h
    simp only [Bool.or_eq_true, decide_eq_true_eq] at h
    exact ⟨i, j, rfl, rfl, h, pI S P⟩
  · exact P.elim⟩
end
end DL

/-! DL8: targets, what is walked, for. -/
namespace DL
open PySem PySem.Spec PyProof.Rows L2 TL
set_option autoImplicit false

/-! ### targets -/
abbrev GT := D → DEnv → Option DEnv
/-- two slots' states that differ at T alone -/
def Off (T : List Nat) (σ σ' : L2.St) : Prop := σ'.length = σ.length ∧ ∀ i : Nat, i ∉ T → σ'[i]? = σ[i]?
def rdG (g : GG) (gt : GT) (T : List Nat) : TG := fun v σ H Q => ∃ H0 F ρ δ st d, St0 g H0 F ρ δ st σ H ∧ Rep g F ρ d v ∧ match gt d δ with
  | none => False
  | some δ' => ∀ σ', Off T σ σ' → St0 g H0 F ρ δ' st σ' H → Q σ' H
abbrev GTs := List D → DEnv → Option DEnv
def rdGs (g : GG) (gt : GTs) (T : List Nat) : TGs := fun vs σ H Q => ∃ H0 F ρ δ st ds, St0 g H0 F ρ δ st σ H ∧ Reps g F ρ ds vs ∧ match gt ds δ with
  | none => False
  | some δ' => ∀ σ', Off T σ σ' → St0 g H0 F ρ δ' st σ' H → Q σ' H
def DG (C : Ctx) (t : Expr) (gt : GT) (T : List Nat) : Prop := ∀ X W, CtxOk C X → Takes X W → PG X t (rdG (xg X) gt T)
def DGs (C : Ctx) (ts : List Expr) (gt : GTs) (T : List Nat) : Prop := ∀ X W, CtxOk C X → Takes X W → PGs X ts (rdGs (xg X) gt T)
theorem pgW {X : Cx} {e : Expr} {t t' : TG} (p : PG X e t) (h : ∀ v σ H Q, t' v σ H Q → t v σ H Q) : PG X e t' := ⟨fun pins s σ H v u Q I r q => p.run pins s σ H v u Q I r (h _ _ _ _ q)⟩
theorem pgsW {X : Cx} {e : List Expr} {t t' : TGs} (p : PGs X e t) (h : ∀ v σ H Q, t' v σ H Q → t v σ H Q) : PGs X e t' := ⟨fun pins s σ H v u Q I r q => p.run pins s σ H v u Q I r (h _ _ _ _ q)⟩
theorem pg_or {X : Cx} {e : Expr} {t t' : TG} (p : PG X e t) (p' : PG X e t') : PG X e (fun v σ H Q => t v σ H Q ∨ t' v σ H Q) := ⟨fun pins s σ H v u Q I r q => by
  rcases q with q | q
  · exact p.run pins s σ H v u Q I r q
  · exact p'.run pins s σ H v u Q I r q⟩
def tName (i : Nat) : GT := fun d δ => some (δ.set i (some (.fz d)))
def tsNil : GTs := fun ds δ => match ds with
  | [] => some δ
  | _ => none
def tsCons (t : GT) (ts : GTs) : GTs := fun ds δ => match ds with
  | d :: ds => (t d δ).bind (ts ds)
  | [] => none
def tTupD (n : Nat) (ts : GTs) : GT := fun d δ => match d with
  | .tup ds => if ds.length = n then ts ds δ else none
  | .lst ds => if ds.length = n then ts ds δ else none
  | _ => none
/-- no star among targets -/
def noStarT : Expr → Bool
  | .Starred .. => false
  | _ => true
section
variable {C : Ctx} {e : Expr} {es : List Expr} {t : GT} {ts : GTs} {pos : Pos} {i n k : Nat} {x : Str} {T T' : List Nat}
theorem dg_name (hi : C.N[i]? = some x) (hx : Stor C x) : DG C (.Name x pos) (tName i) [i] := fun X W ok tk => by
  refine pgW (pg_name (i := i) (by rw [ok.N]; exact ok.nd) (by rw [ok.N]; exact hi) (ok.loc hx) (ok.fn hx)) fun v σ H Q ⟨H0, F, ρ, δ, st, d, S, R, P⟩ => ?_
  exact P _ ⟨by rw [List.length_set], fun j hj => List.getElem?_set_ne fun z => hj (by simp [z])⟩ (set_ok (r := .fz d) (ρ0 := ρ) (F0 := F) (fun c z => nomatch z) S .refl S R rfl)
theorem dgs_nil : DGs C [] tsNil [] := fun X W ok tk => by
  refine pgsW pgs_nil fun vs σ H Q ⟨H0, F, ρ, δ, st, ds, S, R, P⟩ => ?_
  cases R with
  | nil => exact ⟨rfl, P σ ⟨rfl, fun _ _ => rfl⟩ S⟩
  | cons r t => exact P.elim
theorem assign_cons {e : Expr} {es : List Expr} {env : Env} (h : noStarT e = true) : (assignEach (e :: es) env).map (·.2) = assign e env :: (assignEach es env).map (·.2) := by
  cases e <;> first | rfl | cases h
theorem dgs_cons (h1 : DG C e t T) (h2 : DGs C es ts T') (hn : noStarT e = true := by rfl) : DGs C (e :: es) (tsCons t ts) (T ++ T') := fun X W ok tk => by
  refine pgsW (pgs_cons (h1 X W ok tk) (h2 X W ok tk) (assign_cons hn)) fun vs σ H Q ⟨H0, F, ρ, δ, st, ds, S, R, P⟩ => ?_
  cases R with
  | nil => exact P.elim
  | @cons d v ds vs r rs =>
    refine ⟨v, vs, rfl, H0, F, ρ, δ, st, d, S, r, ?_⟩
    change (match (t d δ).bind (ts ds) with
      | none => False
      | some δ' => ∀ σ', Off (T ++ T') σ σ' → St0 (xg X) H0 F ρ δ' st σ' H → Q σ' H) at P
    cases q : t d δ with
    | none => rw [q] at P; exact P.elim
    | some δ1 =>
      rw [q] at P
      refine fun σ' o' S' => ⟨H0, F, ρ, δ1, st, ds, S', rs, ?_⟩
      cases q2 : ts ds δ1 with
      | none => change (match ts ds δ1 with | none => False | some δ' => _) at P; rw [q2] at P; exact P.elim
      | some δ2 =>
        change (match ts ds δ1 with | none => False | some δ' => _) at P
        rw [q2] at P
        exact fun σ2 o2 S2 => P σ2 ⟨o2.1.trans o'.1, fun j hj => (o2.2 j fun z => hj (List.mem_append_right _ z)).trans (o'.2 j fun z => hj (List.mem_append_left _ z))⟩ S2
theorem dg_tup (h : DGs C es ts T) (hn : ∀ env : Env, (assignEach es env).length = n := by intro _; rfl) (hst : ∀ env : Env, (assignEach es env).findIdx? (·.1) = none := by intro _; rfl) : DG C (.Tuple es k pos) (tTupD n ts) T := fun X W ok tk => by
  refine pgW (pg_or (pg_tup ok.calm (h X W ok tk) (hn _) (hst _)) (pg_lst ok.calm (h X W ok tk) (hn _) (hst _))) fun v σ H Q ⟨H0, F, ρ, δ, st, d, S, R, P⟩ => ?_
  match d, R, P with
  | .tup ds, R, P =>
    obtain ⟨a, vs, rfl, h1, h2⟩ := Rep.tup_v R
    unfold tTupD at P
    dsimp only at P
    by_cases hl : ds.length = n
    · rw [if_pos hl] at P
      exact .inl ⟨a, vs, rfl, Same.sqT S.fs h1, by rw [← h2.length]; exact hl, H0, F, ρ, δ, st, ds, S, h2, P⟩
    · rw [if_neg hl] at P; exact P.elim
  | .lst ds, R, P =>
    obtain ⟨a, vs, rfl, h1, h2⟩ := Rep.lst_v R
    unfold tTupD at P
    dsimp only at P
    by_cases hl : ds.length = n
    · rw [if_pos hl] at P
      exact .inr ⟨a, vs, rfl, .of (S.fs _ _ h1), by rw [← h2.length]; exact hl, H0, F, ρ, δ, st, ds, S, h2, P⟩
    · rw [if_neg hl] at P; exact P.elim
  | .non, _, P => exact P.elim
  | .bl _, _, P => exact P.elim
  | .int _, _, P => exact P.elim
  | .str _, _, P => exact P.elim
  | .rol _, _, P => exact P.elim
  | .obj _ _, _, P => exact P.elim
  | .dk _, _, P => exact P.elim
  | .dt _, _, P => exact P.elim
  | .loc _, _, P => exact P.elim
  | .ty _, _, P => exact P.elim
end
/-- target = value, by a target -/
def sAsgT (t : GT) (ga : DEnv → M Rv) : GS := fun δ => sBnd (gFrz ga δ) δ fun r st => match r with
  | .fz d => (match t d δ with
    | some δ' => some (.nx δ', st)
    | none => none)
  | _ => none
section
variable {C : Ctx} {e tg : Expr} {ga : DEnv → M Rv} {t : GT} {pos : Pos} {T : List Nat}
theorem ds_asgT (ha : DE C e ga) (hg : DG C tg t T) (hn : noComp e = true := by rfl) (hw : ∀ env : Env, swappedStores [tg] e env = pure none := by intro _; rfl) (hs : noStarT tg = true := by rfl) : DS C (.Assign [tg] e pos) (sAsgT t ga) := fun X W ok tk => by
  refine psW (ps_asg (de_frz ha X W ok tk) (hg X W ok tk) (swapsSole hn) (hw _) (assign_cons hs)) fun D σ H ⟨E, F, ρ, δ, st, A, S, P⟩ => ?_
  refine ⟨E.H0, F, ρ, δ, st, S, PostS_bnd A P fun F1 ρ1 st1 H1 v r A1 A1' S1 R1 P1 => ?_⟩
  cases r with
  | ow c => exact P1.elim
  | vw j => exact P1.elim
  | fz d =>
    refine ⟨E.H0, F1, ρ1, δ, st1, d, S1, R1, ?_⟩
    cases q : t d δ with
    | none => dsimp only at P1; rw [q] at P1; exact P1.elim
    | some δ' =>
      dsimp only at P1; rw [q] at P1
      exact fun σ' _ S' => P1 σ' ρ1 F1 H1 A1' S'
end

/-! ### what is walked -/
/-- the items of a walk, whatever happens meanwhile -/
structure ItD (g : GG) (J : It) (ds : List D) (F : Hp) (ρ : List Addr) : Prop where
  stop : ∀ {F' ρ' H'} {i : Nat}, Same F F' → (∃ l, ρ' = ρ ++ l) → Same F' H' → ds.length ≤ i → J.stop i H'
  go : ∀ {F' ρ' H'} {i : Nat}, Same F F' → (∃ l, ρ' = ρ ++ l) → Same F' H' → i < ds.length → J.go i H'
  yld : ∀ {F' ρ' H' H'' x d} {i : Nat}, Same F F' → (∃ l, ρ' = ρ ++ l) → Same F' H' → ds[i]? = some d → J.yld i H' x H'' → ∃ F'', Ext F' H' F'' H'' ∧ Rep g F'' ρ' d x
def PostI (g : GG) (W : WX) (H0 F : Hp) (ρ : List Addr) (δ : DEnv) (σ : L2.St) (H : Hp) (o : Option (Res (List D) × Sto)) (R : It → Hp → Prop) : Prop := match o with
  | none => False
  | some (.ok ds, st') => ∀ J ρ' F' H', After ρ F H ρ' F' H' → St0 g H0 F' ρ' δ st' σ H' → ItD g J ds F' ρ' → R J H'
  | some (.ex x, st') => ∀ c d ρ' F' H', After ρ F H ρ' F' H' → St0 g H0 F' ρ' δ st' σ H' → RepX g F' ρ' H' x c d → W c d σ H'
def rdI (g : GG) (W : WX) (ge : DEnv → M (List D)) : TI := fun σ H R => ∃ H0 F ρ δ st, St0 g H0 F ρ δ st σ H ∧ PostI g W H0 F ρ δ σ H (ge δ st) R
def DI (C : Ctx) (tg e : Expr) (ge : DEnv → M (List D)) : Prop := ∀ X W, CtxOk C X → Takes X W → PI X tg e (rdI (xg X) W ge)
theorem piW {X : Cx} {tg e : Expr} {t t' : TI} (p : PI X tg e t) (h : ∀ σ H R, t' σ H R → t σ H R) : PI X tg e t' := ⟨fun pins s σ H R I q => p.run pins s σ H R I (h _ _ _ q)⟩
theorem pi_or {X : Cx} {tg e : Expr} {t t' : TI} (p : PI X tg e t) (p' : PI X tg e t') : PI X tg e (fun σ H R => t σ H R ∨ t' σ H R) := ⟨fun pins s σ H R I q => by
  rcases q with q | q
  · exact p.run pins s σ H R I q
  · exact p'.run pins s σ H R I q⟩
theorem PostI_bnd {g : GG} {W : WX} {H0 F H : Hp} {ρ : List Addr} {δ : DEnv} {σ : L2.St} {st : Sto} {m : M Rv} {k : Rv → M (List D)} {R : It → Hp → Prop} {T : V → Hp → Prop} (P : PostI g W H0 F ρ δ σ H (bnd m k st) R)
    (hk : ∀ F' ρ' st' H' v r, After ρ F H ρ' F' H' → St0 g H0 F' ρ' δ st' σ H' → RepR g F' ρ' δ σ H H' r v → PostI g W H0 F ρ δ σ H (k r st') R → T v H') : PostE g W H0 F ρ δ σ H (m st) T := by
  unfold bnd at P
  match e : m st, P with
  | none, P => exact P
  | some (.ok r, st'), P => exact fun v ρ' F' H' A' S' R' => hk F' ρ' st' H' v r A' S' R' P
  | some (.ex x, st'), P => exact P
theorem PostI_bndA {g : GG} {W : WX} {H0 F H : Hp} {ρ : List Addr} {δ : DEnv} {σ : L2.St} {st : Sto} {m : M (List Rv)} {k : List Rv → M (List D)} {R : It → Hp → Prop} {T : List V → Hp → Prop} (P : PostI g W H0 F ρ δ σ H (bnd m k st) R)
    (hk : ∀ F' ρ' st' H' vs rs, After ρ F H ρ' F' H' → St0 g H0 F' ρ' δ st' σ H' → RepRs g F' ρ' δ σ H H' rs vs → PostI g W H0 F ρ δ σ H (k rs st') R → T vs H') : PostA g W H0 F ρ δ σ H (m st) T := by
  unfold bnd at P
  match e : m st, P with
  | none, P => exact P
  | some (.ok r, st'), P => exact fun v ρ' F' H' A' S' R' => hk F' ρ' st' H' v r A' S' R' P
  | some (.ex x, st'), P => exact P
/-- the items of a frozen list, tuple, text -/
def Rv.items : Rv → Option (List D)
  | .fz (.lst ds) => some ds
  | .fz (.rol ds) => some ds
  | .fz (.tup ds) => some ds
  | .fz (.str s) => some (s.map fun c => .str [c])
  | _ => none
def gItems (ga : DEnv → M Rv) : DEnv → M (List D) := fun δ => bnd (gFrz ga δ) fun r => opt r.items fun ds => ret ds
section
variable {g : GG} {F : Hp} {ρ : List Addr} {a : Addr} {vs : List V} {ds : List D}
theorem itd_list (h : SqL g.K F a vs) (r : Reps g F ρ ds vs) : ItD g (Itl g.K a) ds F ρ := by
  refine ⟨fun {F' ρ' H' i} e p s hi => ⟨vs, Same.seq s (Same.seq e h), by rw [← r.length]; exact hi⟩, fun {F' ρ' H' i} e p s hi => ?_, fun {F' ρ' H' H'' x d i} e p s hd hy => ?_⟩
  · obtain ⟨v, h1, _⟩ := r.get (List.getElem?_eq_getElem hi)
    exact ⟨vs, v, Same.seq s (Same.seq e h), h1⟩
  · obtain ⟨rfl, hx⟩ := hy
    obtain ⟨v, h1, h2⟩ := r.get hd
    have := hx vs (Same.seq s (Same.seq e h))
    rw [h1] at this; cases this
    exact ⟨F', Ext.refl s, h2.mono e p⟩
theorem itd_tup (h : SqT g.K F a vs) (r : Reps g F ρ ds vs) : ItD g (Itt g.K a) ds F ρ := by
  refine ⟨fun {F' ρ' H' i} e p s hi => ⟨vs, Same.sqT s (Same.sqT e h), by rw [← r.length]; exact hi⟩, fun {F' ρ' H' i} e p s hi => ?_, fun {F' ρ' H' H'' x d i} e p s hd hy => ?_⟩
  · obtain ⟨v, h1, _⟩ := r.get (List.getElem?_eq_getElem hi)
    exact ⟨vs, v, Same.sqT s (Same.sqT e h), h1⟩
  · obtain ⟨rfl, hx⟩ := hy
    obtain ⟨v, h1, h2⟩ := r.get hd
    have := hx vs (Same.sqT s (Same.sqT e h))
    rw [h1] at this; cases this
    exact ⟨F', Ext.refl s, h2.mono e p⟩
theorem itd_str {s : List Nat} : ItD g (Its ⟨s.toArray⟩) (s.map fun c => .str [c]) F ρ := by
  have hz : ∀ i : Nat, (⟨s.toArray⟩ : Str).cps[i]? = s[i]? := fun i => by simp
  have hl : (⟨s.toArray⟩ : Str).cps.size = s.length := by simp
  refine ⟨fun {F' ρ' H' i} e p q hi => by (show (⟨s.toArray⟩ : Str).cps.size ≤ i); rw [hl]; simpa using hi, fun {F' ρ' H' i} e p q hi => by (show i < (⟨s.toArray⟩ : Str).cps.size); rw [hl]; simpa using hi, fun {F' ρ' H' H'' x d i} e p q hd hy => ?_⟩
  obtain ⟨rfl, c, h1, rfl⟩ := hy
  rw [hz] at h1
  rw [List.getElem?_map, h1] at hd
  cases hd
  exact ⟨F', Ext.refl q, .str⟩
end
section
variable {C : Ctx} {e tg : Expr} {ga : DEnv → M Rv} {pos p : Pos}
theorem di_any (h : DE C e ga) : DI C tg e (gItems ga) := fun X W ok tk => by
  refine piW (pi_or (pi_list (de_frz h X W ok tk)) (pi_or (pi_tup (de_frz h X W ok tk)) (pi_str (de_frz h X W ok tk)))) fun σ H R ⟨H0, F, ρ, δ, st, S, P⟩ => ?_
  unfold gItems at P
  cases q : gFrz ga δ st with
  | none => unfold bnd at P; rw [q] at P; exact P.elim
  | some o =>
    obtain ⟨o, st'⟩ := o
    cases o with
    | ex x =>
      unfold bnd at P; rw [q] at P
      exact .inl ⟨H0, F, ρ, δ, st, S, by rw [q]; exact P⟩
    | ok r =>
      have P0 := P
      unfold bnd at P0; rw [q] at P0
      match r, P0 with
      | .fz (.lst ds), P0 =>
        refine .inl ⟨H0, F, ρ, δ, st, S, ?_⟩
        rw [q]
        intro v ρ' F' H' A' S' R'
        obtain ⟨a, vs, rfl, h1, h2⟩ := Rep.lst_v R'
        exact ⟨a, rfl, ⟨vs, .of (S'.fs _ _ h1)⟩, P0 _ ρ' F' H' A' S' (itd_list (.of h1) h2)⟩
      | .fz (.rol ds), P0 =>
        refine .inl ⟨H0, F, ρ, δ, st, S, ?_⟩
        rw [q]
        intro v ρ' F' H' A' S' R'
        cases R' with
        | rol h1 h2 => exact ⟨_, rfl, ⟨_, Same.seq S'.fs h1⟩, P0 _ ρ' F' H' A' S' (itd_list h1 h2)⟩
      | .fz (.tup ds), P0 =>
        refine .inr (.inl ⟨H0, F, ρ, δ, st, S, ?_⟩)
        rw [q]
        intro v ρ' F' H' A' S' R'
        obtain ⟨a, vs, rfl, h1, h2⟩ := Rep.tup_v R'
        exact ⟨a, rfl, ⟨vs, Same.sqT S'.fs h1⟩, P0 _ ρ' F' H' A' S' (itd_tup h1 h2)⟩
      | .fz (.str s), P0 =>
        refine .inr (.inr ⟨H0, F, ρ, δ, st, S, ?_⟩)
        rw [q]
        intro v ρ' F' H' A' S' R'
        exact ⟨_, Rep.str_v R', P0 _ ρ' F' H' A' S' itd_str⟩
      | .ow _, P0 => exact P0.elim
      | .vw _, P0 => exact P0.elim
      | .fz .non, P0 => exact P0.elim
      | .fz (.bl _), P0 => exact P0.elim
      | .fz (.int _), P0 => exact P0.elim
      | .fz (.obj _ _), P0 => exact P0.elim
      | .fz (.dk _), P0 => exact P0.elim
      | .fz (.dt _), P0 => exact P0.elim
      | .fz (.loc _), P0 => exact P0.elim
      | .fz (.ty _), P0 => exact P0.elim
/-! ranges -/
def rangeD (lo : Int) (n : Nat) : List D := (List.range n).map fun (i : Nat) => .int (lo + i)
theorem itd_range {g : GG} {F : Hp} {ρ : List Addr} {lo : Int} {n : Nat} : ItD g (Itr lo n) (rangeD lo n) F ρ := by
  have hl : (rangeD lo n).length = n := by simp [rangeD]
  refine ⟨fun {F' ρ' H' i} e p q hi => by (show n ≤ i); rw [← hl]; exact hi, fun {F' ρ' H' i} e p q hi => by (show i < n); rw [← hl]; exact hi, fun {F' ρ' H' H'' x d i} e p q hd hy => ?_⟩
  obtain ⟨rfl, rfl⟩ := hy
  have hi : i < n := by rw [← hl]; exact (List.getElem?_eq_some_iff.mp hd).1
  unfold rangeD at hd
  rw [List.getElem?_map, List.getElem?_range hi] at hd
  cases hd
  exact ⟨F', Ext.refl q, .int⟩
def okR (j : Int) : Bool := decide (-(2 ^ 62) ≤ j ∧ j < 2 ^ 62)
def gRange1 (gs : DEnv → M (List Rv)) : DEnv → M (List D) := fun δ => bnd (gs δ) fun rs => match rs with
  | [r] => opt r.asI fun j => if okR j then ret (rangeD 0 j.toNat) else fail
  | _ => fail
def gRange2 (gs : DEnv → M (List Rv)) : DEnv → M (List D) := fun δ => bnd (gs δ) fun rs => match rs with
  | [r, r'] => opt r.asI fun i => opt r'.asI fun j => if okR i && okR j then ret (rangeD i (j - i).toNat) else fail
  | _ => fail
variable {gs : DEnv → M (List Rv)} {a b : Expr}
theorem optI_ok {α : Type} {a : Option α} {f : α → M (List D)} {g : GG} {W : WX} {H0 F H : Hp} {ρ : List Addr} {δ : DEnv} {st : Sto} {σ : L2.St} {R : It → Hp → Prop} (P : PostI g W H0 F ρ δ σ H (opt a f st) R) : ∃ i, a = some i ∧ PostI g W H0 F ρ δ σ H (f i st) R := by
  cases a with
  | none => exact P.elim
  | some i => exact ⟨i, rfl, P⟩
theorem di_range1 (hg : Glo C "range") (hm : C.mg "range" = none) (ha : DA C [a] gs) (hn : noStar a = true := by rfl) : DI C tg (.Call (.Name "range" p) [a] [] pos) (gRange1 gs) := fun X W ok tk => by
  refine piW (pi_range1 (ok.glo hg) (by rw [ok.mg]; exact hm) (ha X W ok tk) (star_eq hn)) fun σ H R ⟨H0, F, ρ, δ, st, S, P⟩ => ?_
  refine ⟨H0, F, ρ, δ, st, S, PostI_bndA P fun F' ρ' st' H' vs rs A' S' R' P' => ?_⟩
  match rs, R', P' with
  | [r], R', P' =>
    obtain ⟨v, rfl, R1⟩ := R'.one
    obtain ⟨j, e, P2⟩ := optI_ok P'
    by_cases hj : okR j = true
    · rw [if_pos hj] at P2
      have hj2 := hj
      unfold okR at hj2
      simp only [decide_eq_true_eq] at hj2
      exact ⟨j, by rw [asI_v R1 e], hj2.1, hj2.2, P2 _ ρ' F' H' A' S' itd_range⟩
    · rw [if_neg hj] at P2; exact P2.elim
  | [], _, P' => exact P'.elim
  | _ :: _ :: _, _, P' => exact P'.elim
theorem di_range2 (hg : Glo C "range") (hm : C.mg "range" = none) (ha : DA C [a, b] gs) (hn : noStar a = true := by rfl) (hn2 : noStar b = true := by rfl) : DI C tg (.Call (.Name "range" p) [a, b] [] pos) (gRange2 gs) := fun X W ok tk => by
  refine piW (pi_range2 (ok.glo hg) (by rw [ok.mg]; exact hm) (ha X W ok tk) (by rw [star_eq hn, star_eq hn2] <;> rfl) (by rw [star_eq hn2] <;> rfl)) fun σ H R ⟨H0, F, ρ, δ, st, S, P⟩ => ?_
  refine ⟨H0, F, ρ, δ, st, S, PostI_bndA P fun F' ρ' st' H' vs rs A' S' R' P' => ?_⟩
  match rs, R', P' with
  | [r, r'], R', P' =>
    obtain ⟨v, u, rfl, R1, R2⟩ := R'.two
    obtain ⟨i, e1, P2⟩ := optI_ok P'
    obtain ⟨j, e2, P3⟩ := optI_ok P2
    by_cases hj : (okR i && okR j) = true
    · rw [if_pos hj] at P3
      have hj2 := hj
      unfold okR at hj2
      simp only [Bool.and_eq_true, decide_eq_true_eq] at hj2
      exact ⟨i, j, by rw [asI_v R1 e1, asI_v R2 e2], ⟨hj2.1.1, hj2.1.2, hj2.2.1, hj2.2.2⟩, P3 _ ρ' F' H' A' S' itd_range⟩
    · rw [if_neg hj] at P3; exact P3.elim
  | [], _, P' => exact P'.elim
  | [_], _, P' => exact P'.elim
  | _ :: _ :: _ :: _, _, P' => exact P'.elim
end

/-! ### for -/
def forG (t : GT) (body : GS) : List D → GS
  | [] => fun δ st => some (.nx δ, st)
  | d :: ds => fun δ st => match t d δ with
    | none => none
    | some δ1 => match body δ1 st with
      | some (.nx δ2, st2) => forG t body ds δ2 st2
      | some (.ct δ2, st2) => forG t body ds δ2 st2
      | some (.bk δ2, st2) => some (.nx δ2, st2)
      | o => o
def sFor (gi : DEnv → M (List D)) (t : GT) (body : GS) : GS := fun δ => sBnd (gi δ) δ fun ds st => forG t body ds δ st
theorem PostS_bndI {g : GG} {W : WX} {E : En} {F H : Hp} {ρ : List Addr} {δ : DEnv} {σ : L2.St} {st : Sto} {De : Ends} {m : M (List D)} {k : List D → Sto → Option (Fl × Sto)} {R : It → Hp → Prop} (A : Lat E ρ F H) (P : PostS g W E (sBnd m δ k st) De)
    (hk : ∀ J F' ρ' st' H' ds, Lat E ρ' F' H' → St0 g E.H0 F' ρ' δ st' σ H' → ItD g J ds F' ρ' → PostS g W E (k ds st') De → R J H') : PostI g W E.H0 F ρ δ σ H (m st) R := by
  unfold sBnd at P
  match e : m st, P with
  | none, P => exact P
  | some (.ok r, st'), P => exact fun J ρ' F' H' A' S' R' => hk J F' ρ' st' H' r (A.step A') S' R' P
  | some (.ex x, st'), P => exact fun c d ρ' F' H' A' S' R' => P c d σ ρ' F' H' (A.step A') S' R'
section
variable {C : Ctx} {e tg : Expr} {gi : DEnv → M (List D)} {t : GT} {body : GS} {sb : List Stmt} {pos : Pos} {T : List Nat}
/-- the state of a loop's turn -/
def LoopAt (g : GG) (W : WX) (E Eb : En) (t : GT) (body : GS) (ds : List D) (De : Ends) (i : Nat) (σ : L2.St) (H : Hp) : Prop :=
  ∃ F ρ δ st, Lat Eb ρ F H ∧ St0 g E.H0 F ρ δ st σ H ∧ PostS g W E (forG t body (ds.drop i) δ st) De
/-- a loop's base -/
def En.at (E : En) (F : Hp) (ρ : List Addr) : En := { E with Fb := F, ρb := ρ }
theorem Lat.base {E : En} {ρ ρ' : List Addr} {F F' H H' : Hp} (l : Lat E ρ F H) (l' : Lat (E.at F ρ) ρ' F' H') : Lat E ρ' F' H' := by
  refine ⟨l'.a, l.b.trans l'.b, ?_⟩
  obtain ⟨x, hx⟩ := l.p
  obtain ⟨y, hy⟩ := l'.p
  exact ⟨x ++ y, by rw [hy]; show ρ ++ y = _; rw [hx, List.append_assoc]⟩
theorem ds_for (hi : DI C tg e gi) (hg : DG C tg t T) (hb : DSs C sb body) (hs : ∀ (env : Env) x, foldedSetIterable e env x = pure x := by intro _ _; rfl) : DS C (.For tg e sb [] pos) (sFor gi t body) := fun X W ok tk => by
  refine psW (ps_for ok.pown ok.calm (hi X W ok tk) (hg X W ok tk) (hb X W ok tk) (hs _)) fun De σ H ⟨E, F, ρ, δ, st, A, S, P⟩ => ?_
  refine ⟨E.H0, F, ρ, δ, st, S, PostS_bndI A P fun J F1 ρ1 st1 H1 ds A1 S1 I1 P1 => ?_⟩
  refine ⟨fun i m σ H => m = ds.length - i ∧ i ≤ ds.length ∧ LoopAt (xg X) W E (E.at F1 ρ1) t body ds De i σ H, ⟨ds.length, by simp, Nat.zero_le _, F1, ρ1, δ, st1, ⟨A1.a, Same.refl _, ⟨[], by simp [En.at]⟩⟩, S1, P1⟩, ?_⟩
  rintro i m σ2 H2 ⟨rfl, hi, F2, ρ2, δ2, st2, A2, S2, P2⟩
  have e2 : Same F1 F2 := A2.b
  have p2 : ∃ l, ρ2 = ρ1 ++ l := A2.p
  by_cases hlt : i < ds.length
  · refine .inr ⟨I1.go e2 p2 S2.fs hlt, LoopAt (xg X) W E (E.at F1 ρ1) t body ds De (i + 1), fun σ' H' h' => ⟨ds.length - (i + 1), by omega, rfl, hlt, h'⟩, fun x H3 hy => ?_⟩
    have hd : ds.drop i = ds[i] :: ds.drop (i + 1) := List.drop_eq_getElem_cons hlt
    rw [hd] at P2
    obtain ⟨F3, x3, r3⟩ := I1.yld e2 p2 S2.fs (List.getElem?_eq_getElem hlt) hy
    have S3 := S2.ext x3
    have A3 := A2.step x3.after
    unfold forG at P2
    refine ⟨E.H0, F3, ρ2, δ2, st2, ds[i], S3, r3, ?_⟩
    cases q : t ds[i] δ2 with
    | none => rw [q] at P2; exact P2.elim
    | some δ3 =>
      rw [q] at P2
      intro σ3 _ S4
      refine ⟨E.at F1 ρ1, F3, ρ2, δ3, st2, A3, S4, ?_⟩
      dsimp only at P2
      match q2 : body δ3 st2, P2 with
      | none, P2 => exact P2
      | some (.nx δ', st'), P2 => exact fun σ' ρ' F' H' A' S' => ⟨F', ρ', δ', st', A', S', P2⟩
      | some (.ct δ', st'), P2 => exact fun σ' ρ' F' H' A' S' => ⟨F', ρ', δ', st', A', S', P2⟩
      | some (.bk δ', st'), P2 => exact fun σ' ρ' F' H' A' S' => P2 σ' ρ' F' H' (A1.base A') S'
      | some (.rt r, st'), P2 => exact fun v ρ' F' H' A' S' R' => P2 v ρ' F' H' (A1.base A') S' R'
      | some (.ex x δ', st'), P2 => exact fun c d σ' ρ' F' H' A' S' R' => P2 c d σ' ρ' F' H' (A1.base A') S' R'
  · have : i = ds.length := by omega
    subst this
    rw [List.drop_length] at P2
    exact .inl ⟨I1.stop e2 p2 S2.fs (Nat.le_refl _), P2 σ2 ρ2 F2 H2 (A1.base A2) S2⟩
end

/-! ### list comprehensions -/
def wipeD (δ : DEnv) : List Nat → DEnv
  | [] => δ
  | v :: vs => (wipeD δ vs).set v none
theorem wipe_ok {g : GG} {H0 F H : Hp} {ρ : List Addr} {δ : DEnv} {σ : L2.St} {st : Sto} (S : St0 g H0 F ρ δ st σ H) : ∀ vs : List Nat, St0 g H0 F ρ (wipeD δ vs) st (wipe σ vs) H
  | [] => S
  | v :: vs => by
    have S1 := wipe_ok S vs
    have key : ∀ (j : Nat) (s : SV), ((wipeD δ vs).set v none)[j]? = some (some s) → j ≠ v ∧ (wipeD δ vs)[j]? = some (some s) := fun j s h => by
      by_cases z : j = v
      · subst z
        by_cases hi : j < (wipeD δ vs).length
        · rw [List.getElem?_set_self hi] at h; cases h
        · rw [List.getElem?_eq_none (by simpa using hi)] at h; cases h
      · rw [List.getElem?_set_ne (Ne.symm z)] at h
        exact ⟨z, h⟩
    unfold wipeD wipe
    refine ⟨S1.fs, by rw [List.length_set, List.length_set]; exact S1.len, fun j s h => ?_, fun j k b cj ck hj hk sj sk => ?_, S1.sto⟩
    · obtain ⟨z, h⟩ := key j s h
      obtain ⟨u, h1, h2⟩ := S1.slot j s h
      exact ⟨u, by rw [List.getElem?_set_ne (Ne.symm z)]; exact h1, h2⟩
    · obtain ⟨z1, h1⟩ := key j _ hj
      obtain ⟨z2, h2⟩ := key k _ hk
      rw [List.getElem?_set_ne (Ne.symm z1)] at sj
      rw [List.getElem?_set_ne (Ne.symm z2)] at sk
      exact S1.dist j k b cj ck h1 h2 sj sk
/-- no exception leaves -/
def noEx {α : Type} (m : M α) : M α := fun st => match m st with
  | some (.ex _, _) => none
  | o => o
/-- the items of a comprehension's list -/
def compG (t : GT) (tt : DEnv → M Bool) (te : DEnv → M Rv) (δ : DEnv) : List D → List D → M (List D)
  | [], acc => ret acc
  | d :: ds, acc => match t d δ with
    | none => fail
    | some δ1 => bnd (noEx (tt δ1)) fun b => if b then bnd (noEx (gFrz te δ1)) fun r => match r with
        | .fz y => if acc.length < LIM then compG t tt te δ ds (acc ++ [y]) else fail
        | _ => fail
      else compG t tt te δ ds acc
def gLc (gi : DEnv → M (List D)) (vs : List Nat) (t : GT) (tt : DEnv → M Bool) (te : DEnv → M Rv) : DEnv → M Rv := fun δ => bnd (gi δ) fun ds => bnd (compG t tt te (wipeD δ vs) ds []) fun acc => ret (.ow (.lst acc))
def gYes : DEnv → M Bool := fun _ => ret true
def DTs (C : Ctx) (ifs : List Expr) (gt : DEnv → M Bool) : Prop := ∀ X W, CtxOk C X → Takes X W → PTs X ifs (rdT (xg X) W gt)
theorem dts_nil {C : Ctx} : DTs C [] gYes := fun X W ok tk => ⟨fun pins s σ H Q I h => by
  obtain ⟨H0, F, ρ, δ, st, S, P⟩ := h
  exact pts_nil.run pins s σ H Q I (P ρ F H .refl S)⟩
theorem dts_one {C : Ctx} {c : Expr} {gt : DEnv → M Bool} (h : DT C c gt) : DTs C [c] gt := fun X W ok tk => pts_one (h X W ok tk)
/-- the context of a comprehension's block -/
def Ctx.blk (C : Ctx) (scope : Scope) : Ctx := { C with sc := relS scope C.sc, top := false }
theorem CtxOk.blk {C : Ctx} {X : Cx} (ok : CtxOk C X) (scope : Scope) (s : Shared) (H : Hp) (L : Addr) (cl : List (Str × Addr)) (fp : List Addr) : CtxOk (C.blk scope) (X.blk s H scope (compEnvC scope cl L X.env) fp) :=
  ⟨ok.prog, ok.w, ok.K, ok.mg, ok.base, ok.N, by show relS scope X.env.scope = relS scope C.sc; rw [ok.sc], ok.calm, ok.room, PassesOwn.never, ok.nd, fun h => absurd h Bool.false_ne_true⟩
abbrev W0 : WX := fun _ _ _ _ => False
/-- a new list that is being filled, owned by no slot -/
theorem St0.fill {g : GG} {H0 F H : Hp} {ρ : List Addr} {δ : DEnv} {σ : L2.St} {st : Sto} {L : Addr} {o : HO} (S : St0 g H0 F ρ δ st σ H) (fL : F L = none) (nL : L ∉ ρ) (ns : ∀ (i : Nat) (c : Con), δ[i]? = some (some (.ow c)) → σ[i]? ≠ some (some (.ref L))) : St0 g H0 F ρ δ st σ (upd H L o) := by
  have fne : ∀ b o', F b = some o' → b ≠ L := fun b o' h z => by subst z; rw [fL] at h; cases h
  refine ⟨fun b o' h => by rw [upd_ne (fne b o' h)]; exact S.fs b o' h, S.len, fun j s h => ?_, S.dist, S.sto.len, S.sto.nd, fun b hb => ?_, fun n cc h => ?_⟩
  · obtain ⟨u, u1, u2⟩ := S.slot j s h
    refine ⟨u, u1, ?_⟩
    cases s with
    | fz d => exact u2
    | ow cc =>
      obtain ⟨b, rfl, k2, k3, k4, k5⟩ := u2
      have hb : b ≠ L := by
        rintro rfl
        exact ns j _ h u1
      exact ⟨b, rfl, k2, k3, k4, k5.kept (Same.refl F) ⟨[], by simp⟩ fun o' h' => by rw [upd_ne hb]; exact h'⟩
  · have hb2 : b ≠ L := fun z => nL (by rw [← z]; exact hb)
    rw [upd_ne hb2]
    exact S.sto.there b hb
  · obtain ⟨b, k1, k2, k3⟩ := S.sto.live n cc h
    have hb2 : b ≠ L := fun z => nL (by rw [← z]; exact List.mem_of_getElem? k1)
    exact ⟨b, k1, k2, k3.kept (Same.refl F) ⟨[], by simp⟩ fun o' h' => by rw [upd_ne hb2]; exact h'⟩
theorem After.fill {ρ0 ρ : List Addr} {F0 Hb F H : Hp} {L : Addr} {o : HO} (A : After ρ0 F0 Hb ρ F H) (n : Hb L = none) : After ρ0 F0 Hb ρ F (upd H L o) :=
  ⟨A.ff, A.fn, A.pre, fun a o' h n' => by rw [upd_ne (fun z => by subst z; rw [n] at h; cases h)]; exact A.hk a o' h n'⟩
theorem wipe_off {T vs : List Nat} {σ σ' : L2.St} (h : ∀ i ∈ T, i ∈ vs) (o : Off T σ σ') : wipe σ' vs = wipe σ vs := by
  apply List.ext_getElem?
  intro i
  by_cases hi : i ∈ vs
  · have key : ∀ (τ : L2.St) (ws : List Nat), i ∈ ws → (wipe τ ws)[i]? = if i < τ.length then some none else none := fun τ ws hw => by
      induction ws with
      | nil => cases hw
      | cons w ws ih =>
        unfold wipe
        by_cases z : w = i
        · subst z
          by_cases hl : w < τ.length
          · rw [if_pos hl, List.getElem?_set_self (by rw [wipe_length]; exact hl)]
          · rw [if_neg hl, List.getElem?_eq_none (by rw [List.length_set, wipe_length]; exact Nat.le_of_not_lt hl)]
        · rw [List.getElem?_set_ne z]
          rcases List.mem_cons.mp hw with z2 | z2
          · exact absurd z2.symm z
          · exact ih z2
    rw [key σ' vs hi, key σ vs hi, o.1]
  · rw [wipe_out hi, wipe_out hi]
    exact o.2 i fun z => hi (h i z)
theorem noEx_T {g : GG} {W : WX} {H0 F H : Hp} {ρ : List Addr} {δ δ1 : DEnv} {σ σ1 : L2.St} {st : Sto} {m : M Bool} {k : Bool → M (List D)} {k2 : List D → M Rv} {H1 F1 : Hp} {ρ1 : List Addr} {Q : VK} {R : Bool → Hp → Prop} (P : PostE g W H0 F1 ρ1 δ σ H1 (bnd (bnd (noEx m) k) k2 st) Q)
    (hk : ∀ F' ρ' st' H' b, After ρ F H ρ' F' H' → St0 g H0 F' ρ' δ1 st' σ1 H' → PostE g W H0 F1 ρ1 δ σ H1 (bnd (k b) k2 st') Q → R b H') : PostT g W0 H0 F ρ δ1 σ1 H (m st) R := by
  unfold bnd noEx at P
  match e : m st, P with
  | none, P => exact P
  | some (.ok b, st'), P => exact fun ρ' F' H' A' S' => hk F' ρ' st' H' b A' S' P
  | some (.ex x, st'), P => exact P.elim
theorem noEx_E {g : GG} {W : WX} {H0 F H : Hp} {ρ : List Addr} {δ δ1 : DEnv} {σ σ1 : L2.St} {st : Sto} {m : M Rv} {k : Rv → M (List D)} {k2 : List D → M Rv} {H1 F1 : Hp} {ρ1 : List Addr} {Q : VK} {R : V → Hp → Prop} (P : PostE g W H0 F1 ρ1 δ σ H1 (bnd (bnd (noEx m) k) k2 st) Q)
    (hk : ∀ F' ρ' st' H' v r, After ρ F H ρ' F' H' → St0 g H0 F' ρ' δ1 st' σ1 H' → RepR g F' ρ' δ1 σ1 H H' r v → PostE g W H0 F1 ρ1 δ σ H1 (bnd (k r) k2 st') Q → R v H') : PostE g W0 H0 F ρ δ1 σ1 H (m st) R := by
  unfold bnd noEx at P
  match e : m st, P with
  | none, P => exact P
  | some (.ok b, st'), P => exact fun v ρ' F' H' A' S' R' => hk F' ρ' st' H' v b A' S' R' P
  | some (.ex x, st'), P => exact P.elim
/-- the state of a comprehension's turn: acc stands at L -/
def CompAt (g : GG) (W : WX) (H0 F0 Hb : Hp) (ρ0 : List Addr) (F1 : Hp) (ρ1 : List Addr) (δ0 : DEnv) (σ0 : L2.St) (vs : List Nat) (t : GT) (tt : DEnv → M Bool) (te : DEnv → M Rv) (ds : List D) (L : Addr) (Q : VK) (i : Nat) (H : Hp) : Prop :=
  ∃ F ρ st acc xs, After ρ0 F0 Hb ρ F H ∧ Same F1 F ∧ (∃ l, ρ = ρ1 ++ l) ∧ St0 g H0 F ρ δ0 st σ0 H ∧ F L = none ∧ L ∉ ρ ∧ H L = some (.lst xs) ∧ Reps g F ρ acc xs ∧ PostE g W H0 F0 ρ0 δ0 σ0 Hb (bnd (compG t tt te (wipeD δ0 vs) (ds.drop i) acc) (fun acc => ret (.ow (.lst acc))) st) Q
section
variable {C : Ctx} {tg iter elt : Expr} {ifs : List Expr} {gi : DEnv → M (List D)} {t : GT} {tt : DEnv → M Bool} {te : DEnv → M Rv} {pos : Pos} {T : List Nat} {scope : Scope} {own : List (Str × Nat)}
/-- what a comprehension's reading asks -/
theorem lc_rd {X : Cx} {W : WX} {σ : L2.St} {H : Hp} {Q : VK} {vs : List Nat} (hT : ∀ i ∈ T, i ∈ vs) (h : rdE (xg X) W (gLc gi vs t tt te) σ H Q) : tLc (rdI (xg X) W gi) (rdG (xg X) t T) (rdT (xg X) W0 tt) (rdE (xg X) W0 (gFrz te)) vs σ H Q := by
  obtain ⟨H0, F0, ρ0, δ, st, S0, P⟩ := h
  refine ⟨H0, F0, ρ0, δ, st, S0, ?_⟩
  unfold gLc at P
  match e : gi δ st, P with
  | none, P => unfold bnd at P; rw [e] at P; exact P
  | some (.ex x, st1), P => unfold bnd at P; rw [e] at P; exact P
  | some (.ok ds, st1), P =>
    unfold bnd at P; rw [e] at P
    intro J ρ1 F1 H1 A1 S1 I1 L nL
    have nLρ : L ∉ ρ1 := S1.nmem nL
    have fL : F1 L = none := S1.fs.free nL
    have bL : H L = none := A1.back (fun z => nLρ (A1.mem z)) nL
    have ns : ∀ (i : Nat) (c : Con), δ[i]? = some (some (.ow c)) → σ[i]? ≠ some (some (.ref L)) := fun i c q z => by
      obtain ⟨u, u1, a, rfl, _, _, _, k⟩ := S0.slot i _ q
      rw [z] at u1; cases u1
      obtain ⟨o, ho⟩ := k.there
      rw [bL] at ho; cases ho
    refine ⟨fun i m H' => m = ds.length - i ∧ i ≤ ds.length ∧ CompAt (xg X) W H0 F0 H ρ0 F1 ρ1 δ σ vs t tt te ds L Q i H', ⟨ds.length, by simp, Nat.zero_le _, F1, ρ1, st1, [], [], A1.fill bL, Same.refl _, ⟨[], by simp⟩, S1.fill fL nLρ ns, fL, nLρ, upd_same, .nil, P⟩, ?_⟩
    rintro i m H2 ⟨rfl, hi, F2, ρ2, st2, acc, xs, A2, e2, p2, S2, fL2, nL2, hL2, r2, P2⟩
    by_cases hlt : i < ds.length
    · refine .inr ⟨I1.go e2 p2 S2.fs hlt, CompAt (xg X) W H0 F0 H ρ0 F1 ρ1 δ σ vs t tt te ds L Q (i + 1), fun H' h' => ⟨ds.length - (i + 1), by omega, rfl, hlt, h'⟩, fun x H3 hy => ?_⟩
      have hd : ds.drop i = ds[i] :: ds.drop (i + 1) := List.drop_eq_getElem_cons hlt
      rw [hd] at P2
      obtain ⟨F3, x3, r3⟩ := I1.yld e2 p2 S2.fs (List.getElem?_eq_getElem hlt) hy
      have S3 := S2.ext x3
      have A3 := A2.trans x3.after
      have fL3 : F3 L = none := x3.after.unf hL2 nL2 fL2
      have hL3 : H3 L = some (.lst xs) := x3.hh _ _ hL2
      unfold compG at P2
      refine ⟨H0, F3, ρ2, wipeD δ vs, st2, ds[i], wipe_ok S3 vs, r3, ?_⟩
      cases q : t ds[i] (wipeD δ vs) with
      | none => rw [q] at P2; exact P2.elim
      | some δ1 =>
        rw [q] at P2
        dsimp only at P2
        intro σ1 o1 S4
        refine ⟨by rw [wipe_off hT o1]; exact wipe_off (T := vs) (fun i h => h) ⟨wipe_length σ vs, fun i h => wipe_out h⟩, H0, F3, ρ2, δ1, st2, S4, noEx_T P2 fun F4 ρ4 st4 H4 b A4 S5 P4 => ?_⟩
        have e4 := A4.ff
        obtain ⟨l1, hl1⟩ := p2
        obtain ⟨l4, hl4⟩ := A4.ex
        have S6 := S3.after A4 ⟨S5.fs, S5.sto⟩
        have hL4 := A4.hk _ _ hL3 nL2
        cases b with
        | false =>
          simp only [Bool.false_eq_true, if_false] at P4 ⊢
          exact ⟨F4, ρ4, st4, acc, xs, A3.trans A4, (e2.trans x3.ff).trans e4, ⟨l1 ++ l4, by rw [hl4, hl1, List.append_assoc]⟩, S6, A4.unf hL3 nL2 fL3, A4.nmem nL2 hL3, hL4, r2.mono (x3.ff.trans e4) A4.ex, P4⟩
        | true =>
          simp only [if_true] at P4 ⊢
          refine ⟨H0, F4, ρ4, δ1, st4, S5, noEx_E P4 fun F5 ρ5 st5 H5 y r A5 S7 R5 P5 => ?_⟩
          have nL4 := A4.nmem nL2 hL3
          have fL4 := A4.unf hL3 nL2 fL3
          have nL5 := A5.nmem nL4 hL4
          have fL5 := A5.unf hL4 nL4 fL4
          have hL5 := A5.hk _ _ hL4 nL4
          obtain ⟨l5, hl5⟩ := A5.ex
          have S8 := S6.after A5 ⟨S7.fs, S7.sto⟩
          have r5 : Reps (xg X) F5 ρ5 acc xs := r2.mono ((x3.ff.trans e4).trans A5.ff) ⟨l4 ++ l5, by rw [hl5, hl4, List.append_assoc]⟩
          match r, R5, P5 with
          | .ow c, _, P5 => exact P5.elim
          | .vw j, _, P5 => exact P5.elim
          | .fz d, R5, P5 =>
            dsimp only at P5
            by_cases hl : acc.length < LIM
            · rw [if_pos hl] at P5
              refine ⟨xs, hL5, by rw [← r5.length, lim_eq]; exact hl, ?_⟩
              exact ⟨F5, ρ5, st5, acc ++ [d], xs ++ [y], ((A3.trans A4).trans A5).fill bL, ((e2.trans x3.ff).trans e4).trans A5.ff, ⟨l1 ++ l4 ++ l5, by rw [hl5, hl4, hl1]; simp⟩, S8.fill fL5 nL5 ns, fL5, nL5, upd_same, r5.append (.cons R5 .nil), P5⟩
            · rw [if_neg hl] at P5; exact P5.elim
    · have : i = ds.length := by omega
      subst this
      rw [List.drop_length] at P2
      exact .inl ⟨I1.stop e2 p2 S2.fs (Nat.le_refl _), P2 (.ref L) ρ2 F2 H2 A2 S2 ⟨L, rfl, fL2, nL2, bL, xs, hL2, r2⟩⟩
variable {C : Ctx} {elt tg iter : Expr} {ifs : List Expr} {y : Str} {py spos : Pos} {k : Nat}
theorem foldedOk {e : Expr} (h : ∀ (env : Env) x, foldedSetIterable e env x = pure x) (env : Env) : ∀ x, foldedSetIterable e env x = pure x := h env
theorem de_lc (hi : DI C tg iter gi) (bk : blkC C.N C.sc scope own = true) (hg : DG (C.blk scope) tg t T) (ht : DTs (C.blk scope) ifs tt) (he : DE (C.blk scope) elt te) (hT : ∀ i ∈ T, i ∈ own.map (·.2) := by decide) (hs : ∀ (env : Env) x, foldedSetIterable iter env x = pure x := by intro _ _; rfl) :
    DE C (.ListComp elt [⟨tg, iter, ifs, 0⟩] scope pos) (gLc gi (own.map (·.2)) t tt te) := fun X W ok tk => by
  refine peW (pe_lc (X := X) (own := own) (g := rdG (xg X) t T) (tt := rdT (xg X) W0 tt) (te := rdE (xg X) W0 (gFrz te)) ok.calm (by rw [ok.N]; exact ok.nd) (hi X W ok tk) (by rw [ok.N, ok.sc]; exact blkOk_by bk)
    (fun s H L cl fp => hg _ W0 (ok.blk scope s H L cl fp) takes0) (fun s H L cl fp => ht _ W0 (ok.blk scope s H L cl fp) takes0) (fun s H L cl fp => de_frz he _ W0 (ok.blk scope s H L cl fp) takes0) (hs _)) fun σ H Q h => lc_rd hT h
/-- name = [..] on one line -/
theorem ds_setLc (hN : C.N[k]? = some y) (hy : C.sc.names.lookup y = some .local) (hl : (py.line == pos.line) = true) (hk : C.sc.kind = .function) (ha : (scope.names.any fun (n, k) => n == y && (k == .local || k == .cell)) = false)
    (hi : DI C tg iter gi) (bk : blkC C.N C.sc scope own = true) (hg : DG (C.blk scope) tg t T) (ht : DTs (C.blk scope) ifs tt) (he : DE (C.blk scope) elt te) (hT : ∀ i ∈ T, i ∈ own.map (·.2) := by decide) (hs : ∀ (env : Env) x, foldedSetIterable iter env x = pure x := by intro _ _; rfl) :
    DS C (.Assign [.Name y py] (.ListComp elt [⟨tg, iter, ifs, 0⟩] scope pos) spos) (sSet k (gLc gi (own.map (·.2)) t tt te)) := fun X W ok tk => by
  refine psW (ps_setLc (X := X) (i := k) (own := own) (g := rdG (xg X) t T) (tt := rdT (xg X) W0 tt) (te := rdE (xg X) W0 (gFrz te)) ok.calm (by rw [ok.N]; exact ok.nd) (by rw [ok.N]; exact hN) (by rw [ok.sc]; exact hy)
    (sw_true (by rw [ok.sc]; exact hk) (by rw [ok.sc]; exact hy) hl ha) (hi X W ok tk) (by rw [ok.N, ok.sc]; exact blkOk_by bk)
    (fun s H L cl fp => hg _ W0 (ok.blk scope s H L cl fp) takes0) (fun s H L cl fp => ht _ W0 (ok.blk scope s H L cl fp) takes0) (fun s H L cl fp => de_frz he _ W0 (ok.blk scope s H L cl fp) takes0) (hs _)) fun D σ H h => ?_
  have h2 := set_rd h
  exact lc_rd hT h2
end
end DL

/-! DL9: cells, texts joined, sorted; a law's end. -/
namespace DL
open PySem PySem.Spec PyProof.Rows L2 TL
set_option autoImplicit false

/-! ### cells -/
theorem getElem_snoc {α : Type} {l : List α} {x y : α} {i : Nat} (h : (l ++ [x])[i]? = some y) : (i < l.length ∧ l[i]? = some y) ∨ (i = l.length ∧ y = x) := by
  by_cases hi : i < l.length
  · rw [List.getElem?_append_left hi] at h
    exact .inl ⟨hi, h⟩
  · have hi2 : l.length ≤ i := Nat.le_of_not_lt hi
    rw [List.getElem?_append_right hi2] at h
    by_cases z : i - l.length = 0
    · rw [z] at h
      exact .inr ⟨by omega, (Option.some.inj h).symm⟩
    · rw [List.getElem?_eq_none (by simp; omega)] at h; cases h
/-- name = a new thing, which becomes a cell -/
def sCell (i : Nat) (ga : DEnv → M Rv) : GS := fun δ => sBnd (ga δ) δ fun r st => match r with
  | .ow c => some (.nx (δ.set i (some (.fz (.loc st.length)))), st ++ [some c])
  | _ => none
theorem cell_new {g : GG} {E : En} {F H F1 H1 : Hp} {ρ ρ1 : List Addr} {δ : DEnv} {σ : L2.St} {st st1 : Sto} {i : Nat} {c : Con} {v : V} (A0 : Lat E ρ1 F1 H1) (S1 : St0 g E.H0 F1 ρ1 δ st1 σ H1) (A : After ρ1 F1 H1 ρ F H) (S : St0 g E.H0 F ρ δ st σ H) (R : RepR g F ρ δ σ H1 H (.ow c) v) :
    ∃ ρ', Lat E ρ' F H ∧ St0 g E.H0 F ρ' (δ.set i (some (.fz (.loc st.length)))) (st ++ [some c]) (σ.set i (some v)) H := by
  obtain ⟨a, rfl, e2, e3, e4, e5⟩ := R
  obtain ⟨o, ho⟩ := e5.there
  have hE : E.H0 a = none := A0.a.back (fun z => e3 (A.mem (A0.a.mem z))) e4
  have A2 := A0.step A
  have p : ∃ l, ρ ++ [a] = ρ ++ l := ⟨[a], rfl⟩
  have nown : ∀ (j : Nat) (c : Con) (b : Addr), δ[j]? = some (some (.ow c)) → σ[j]? = some (some (.ref b)) → b ≠ a := fun j c b h1 h2 z => by
    subst z
    obtain ⟨u, u1, a', rfl, _, _, _, k5⟩ := S1.slot j _ h1
    rw [h2] at u1; cases u1
    obtain ⟨o, ho⟩ := k5.there
    rw [e4] at ho; cases ho
  have key : ∀ (j : Nat) (s : SV), (δ.set i (some (.fz (.loc st.length))))[j]? = some (some s) → (j = i ∧ i < δ.length ∧ s = .fz (.loc st.length)) ∨ (j ≠ i ∧ δ[j]? = some (some s)) := fun j s h => by
    by_cases z : j = i
    · subst z
      by_cases hi : j < δ.length
      · rw [List.getElem?_set_self hi] at h
        cases h
        exact .inl ⟨rfl, hi, rfl⟩
      · rw [List.getElem?_eq_none (by simpa using hi)] at h; cases h
    · rw [List.getElem?_set_ne (Ne.symm z)] at h
      exact .inr ⟨z, h⟩
  refine ⟨ρ ++ [a], ⟨⟨A2.a.ff, fun b o h1 h2 => A2.a.fn b o h1 h2, ?_, A2.a.hk⟩, A2.b, ?_⟩, S.fs, by rw [List.length_set, List.length_set]; exact S.len, fun j s h => ?_, fun j k b cj ck hj hk sj sk => ?_, ?_, ?_, fun b hb => ?_, fun n cc h => ?_⟩
  · obtain ⟨l, hl, hn⟩ := A2.a.pre
    refine ⟨l ++ [a], by rw [hl, List.append_assoc], fun b hb => ?_⟩
    rcases List.mem_append.mp hb with z | z
    · exact hn b z
    · have : b = a := by simpa using z
      subst this
      exact ⟨hE, fun z => e3 (A.mem (A0.a.mem z))⟩
  · obtain ⟨l, hl⟩ := A2.p
    exact ⟨l ++ [a], by rw [hl, List.append_assoc]⟩
  · rcases key j s h with ⟨rfl, hi, rfl⟩ | ⟨z, h⟩
    · refine ⟨.ref a, List.getElem?_set_self (by rw [S.len]; exact hi), .loc ?_⟩
      rw [← S.sto.len, List.getElem?_append_right (Nat.le_refl _)]
      simp
    · obtain ⟨u, u1, u2⟩ := S.slot j s h
      refine ⟨u, by rw [List.getElem?_set_ne (Ne.symm z)]; exact u1, ?_⟩
      cases s with
      | fz d => exact Rep.mono (Same.refl F) p u2
      | ow cc =>
        obtain ⟨b, rfl, k2, k3, k4, k5⟩ := u2
        refine ⟨b, rfl, k2, fun z => ?_, k4, k5.kept (Same.refl F) p fun o q => q⟩
        rcases List.mem_append.mp z with z | z
        · exact k3 z
        · exact nown j cc b h u1 (by simpa using z)
  · rcases key j _ hj with ⟨_, _, z⟩ | ⟨y1, hj⟩
    · cases z
    · rcases key k _ hk with ⟨_, _, z⟩ | ⟨y2, hk⟩
      · cases z
      · rw [List.getElem?_set_ne (Ne.symm y1)] at sj
        rw [List.getElem?_set_ne (Ne.symm y2)] at sk
        exact S.dist j k b cj ck hj hk sj sk
  · rw [List.length_append, List.length_append, S.sto.len]; rfl
  · exact List.nodup_append.mpr ⟨S.sto.nd, by simp, fun x hx y hy z => by
      have : y = a := by simpa using hy
      subst this
      subst z
      exact e3 hx⟩
  · rcases List.mem_append.mp hb with z | z
    · exact S.sto.there b z
    · have : b = a := by simpa using z
      subst this
      exact ⟨o, ho⟩
  · rcases getElem_snoc h with ⟨hn, h⟩ | ⟨hn, h⟩
    · obtain ⟨b, k1, k2, k3⟩ := S.sto.live n cc h
      exact ⟨b, by rw [List.getElem?_append_left (by rw [S.sto.len]; exact hn)]; exact k1, k2, k3.kept (Same.refl F) p fun o q => q⟩
    · cases h
      refine ⟨a, ?_, e2, e5.kept (Same.refl F) p fun o q => q⟩
      rw [hn, ← S.sto.len, List.getElem?_append_right (Nat.le_refl _)]
      simp
/-- a cell's object is changed -/
theorem cell_upd {g : GG} {E : En} {F H : Hp} {ρ : List Addr} {δ : DEnv} {σ : L2.St} {st : Sto} {n : Nat} {c' : Con} {a : Addr} {o : HO} (A : Lat E ρ F H) (S : St0 g E.H0 F ρ δ st σ H) (hr : ρ[n]? = some a) (hF : F a = none) (k : ConOk g F ρ (upd H a o) a c') :
    Lat E ρ F (upd H a o) ∧ St0 g E.H0 F ρ δ (st.set n (some c')) σ (upd H a o) := by
  have fne : ∀ b o', F b = some o' → b ≠ a := fun b o' h z => by subst z; rw [hF] at h; cases h
  have ha : a ∈ ρ := List.mem_of_getElem? hr
  have hn : n < st.length := by rw [← S.sto.len]; exact (List.getElem?_eq_some_iff.mp hr).1
  refine ⟨⟨⟨A.a.ff, A.a.fn, A.a.pre, fun b o' h n' => ?_⟩, A.b, A.p⟩, fun b o' h => by rw [upd_ne (fne b o' h)]; exact S.fs b o' h, S.len, fun j s h => ?_, S.dist, by rw [List.length_set]; exact S.sto.len, S.sto.nd, fun b hb => ?_, fun m cc h => ?_⟩
  · rw [upd_ne]
    · exact A.a.hk b o' h n'
    · rintro rfl
      obtain ⟨l, hl, hn⟩ := A.a.pre
      rw [hl] at ha
      rcases List.mem_append.mp ha with z | z
      · exact n' z
      · rw [(hn _ z).1] at h; cases h
  · obtain ⟨u, u1, u2⟩ := S.slot j s h
    refine ⟨u, u1, ?_⟩
    cases s with
    | fz d => exact u2
    | ow cc =>
      obtain ⟨b, rfl, k2, k3, k4, k5⟩ := u2
      have hb : b ≠ a := fun z => k3 (by rw [z]; exact ha)
      exact ⟨b, rfl, k2, k3, k4, k5.kept (Same.refl F) ⟨[], by simp⟩ fun o' h' => by rw [upd_ne hb]; exact h'⟩
  · by_cases hb2 : b = a
    · subst hb2; exact ⟨o, upd_same⟩
    · rw [upd_ne hb2]; exact S.sto.there b hb
  · by_cases z : m = n
    · subst z
      rw [List.getElem?_set_self hn] at h
      cases h
      exact ⟨a, hr, hF, k⟩
    · rw [List.getElem?_set_ne (Ne.symm z)] at h
      obtain ⟨b, k1, k2, k3⟩ := S.sto.live m cc h
      have hb2 : b ≠ a := by
        rintro rfl
        exact z ((List.getElem?_inj (by rw [S.sto.len]; exact (List.getElem?_eq_some_iff.mp h).1) S.sto.nd).mp (by rw [k1, hr]))
      exact ⟨b, k1, k2, k3.kept (Same.refl F) ⟨[], by simp⟩ fun o' h' => by rw [upd_ne hb2]; exact h'⟩
/-- x[k] = e of a list in a cell -/
def locAt (δ : DEnv) (i : Nat) : Option Nat := match δ[i]? with
  | some (some (.fz (.loc n))) => some n
  | _ => none
def cellL (st : Sto) (n : Nat) : Option (List D) := match cellAt st n with
  | some (.lst ds) => some ds
  | _ => none
def sSubC (i : Nat) (ga gk : DEnv → M Rv) : GS := fun δ => match locAt δ i with
  | some n => sBnd (gFrz ga δ) δ fun r => sBnd (gk δ) δ fun rk st => match (match r with | .fz d => (cellL st n).bind fun ds => rk.asI.bind fun k => setIx ds k d | _ => none) with
    | some ds' => some (.nx δ, st.set n (some (.lst ds')))
    | none => none
  | none => fun _ => none
section
variable {C : Ctx} {e k : Expr} {ga gk : DEnv → M Rv} {pos p1 p2 pos' : Pos} {i : Nat} {x : Str}
theorem ds_cell (hi : C.N[i]? = some x) (hx : Stor C x) (ha : DE C e ga) (hn : noComp e = true := by rfl) : DS C (.Assign [.Name x pos'] e pos) (sCell i ga) := fun X W ok tk => by
  refine psW (ps_set (i := i) (by rw [ok.N]; exact ok.nd) (by rw [ok.N]; exact hi) (ok.loc hx) (ha X W ok tk) (swaps_none hn) (ok.fn hx)) fun D σ H ⟨E, F, ρ, δ, st, A, S, P⟩ => ?_
  refine ⟨E.H0, F, ρ, δ, st, S, PostS_bnd A P fun F' ρ' st' H' v r A' A2 S' R' P' => ?_⟩
  cases r with
  | fz d => exact P'.elim
  | vw j => exact P'.elim
  | ow c =>
    obtain ⟨ρ2, A3, S3⟩ := cell_new (i := i) A S A' S' R'
    exact P' _ ρ2 F' H' A3 S3
theorem ds_subC (hN : C.N[i]? = some x) (hv : Vis C.sc x) (ha : DE C e ga) (hk : DE C k gk) (hd : (x == ("__debug__" : Str)) = false := by decide) (hcd : (x == ("__classdict__" : Str)) = false := by decide) (hn : noComp e = true := by rfl)
    (has : ∀ (env : Env) v, assign (.Subscript (.Name x p1) k p2) env v = (do
      let ov ← holding [v] (eval (.Name x p1) env)
      let iv ← holding [v, ov] (eval k env)
      standAt p2
      holding [v, ov, iv] (setItem ov iv v)
      release [v, ov, iv] []) := by intro _ _; rfl) :
    DS C (.Assign [.Subscript (.Name x p1) k p2] e pos) (sSubC i ga gk) := fun X W ok tk => by
  have hx : PE X (.Name x p1) (tVar i) := pe_var (i := i) (by rw [ok.N]; exact hN) (by rw [ok.sc]; exact hv) hd hcd
  refine psW (ps_asg (de_frz ha X W ok tk) (pg_sub hx (hk X W ok tk) set_list (has X.env)) (swapsSole hn) (swapped_none rfl)) fun D σ H ⟨E, F, ρ, δ, st, A, S, P⟩ => ?_
  unfold sSubC at P
  cases q : locAt δ i with
  | none => rw [q] at P; exact P.elim
  | some n =>
    rw [q] at P
    have q2 : δ[i]? = some (some (.fz (.loc n))) := by
      unfold locAt at q
      split at q
      · cases q; assumption
      · cases q
    refine ⟨E.H0, F, ρ, δ, st, S, PostS_bnd A P fun F1 ρ1 st1 H1 v r A1 A1' S1 R1 P1 => ?_⟩
    obtain ⟨v1, h1, rv1⟩ := S1.slot i _ q2
    refine ⟨_, h1, E.H0, F1, ρ1, δ, st1, S1, PostS_bnd A1' P1 fun F2 ρ2 st2 H2 u rk A2 A2' S2 R2 P2 => ?_⟩
    cases r with
    | ow c => exact P2.elim
    | vw j => exact P2.elim
    | fz d =>
      dsimp only at P2
      cases q3 : cellL st2 n with
      | none => rw [q3] at P2; exact P2.elim
      | some ds =>
        rw [q3] at P2
        cases q4 : rk.asI with
        | none => rw [q4] at P2; exact P2.elim
        | some z =>
          rw [q4] at P2
          change PostS (xg X) W E (match setIx ds z d with
            | some ds' => some (.nx δ, st2.set n (some (.lst ds')))
            | none => none) D at P2
          cases q5 : setIx ds z d with
          | none => rw [q5] at P2; exact P2.elim
          | some ds' =>
            rw [q5] at P2
            unfold setIx at q5
            cases q6 : ixN ds.length z with
            | none => rw [q6] at q5; cases q5
            | some j =>
              rw [q6] at q5; cases q5
              have q7 : st2[n]? = some (some (.lst ds)) := by
                unfold cellL cellAt at q3
                split at q3
                · rename_i w
                  cases q3
                  split at w
                  · cases w; assumption
                  · cases w
                · cases q3
              obtain ⟨a, k1, k2, xs, k3, k4⟩ := S2.sto.live n _ q7
              have rv2 : Rep (xg X) F2 ρ2 (.loc n) v1 := Rep.mono A2.ff A2.ex rv1
              cases rv2 with
              | loc k5 =>
                rw [k1] at k5; cases k5
                refine ⟨a, xs, z, j, rfl, asI_v R2 q4, k3, by rw [← k4.length]; exact q6, ?_⟩
                have ry : Reps (xg X) F2 ρ2 (ds.set j d) (xs.set j v) := Reps.set (Rep.mono A2.ff A2.ex R1) j k4
                obtain ⟨A3, S3⟩ := cell_upd (c' := .lst (ds.set j d)) (o := .lst (xs.set j v)) A2' S2 k1 k2 ⟨_, upd_same, ry⟩
                exact P2 σ ρ2 F2 _ A3 S3
end

/-! ### texts -/
def gJoin (ga gb : DEnv → M Rv) : DEnv → M Rv := fun δ => bnd (ga δ) fun s => opt s.asS fun sep => bnd (gFrz gb δ) fun x st => (opt (x.asQ δ st) fun ds => opt (strs? ds) fun ss => if (ss.map List.length).sum + ss.length * sep.length ≤ LIM then rsv (joinL sep ss) else fail) st
section
variable {C : Ctx} {o e : Expr} {ga gb : DEnv → M Rv} {pos apos : Pos}
/-- not super() -/
def noSup (o : Expr) : Bool := match o with
  | .Call (.Name id _) _ _ _ => !(id == ("super" : Str))
  | _ => true
theorem base_ok {o : Expr} {f : Str} {env : Env} {w : Sem Value} (h : noSup o = true) : attributeBase o f env w = w := by
  unfold attributeBase
  split
  · rename_i id p q
    unfold noSup at h
    have : (id != ("super" : Str)) = true := h
    simp only [this, Bool.true_or, if_true]
  · rfl
theorem tl_glued (sep : List Nat) (ss : List (List Nat)) : Txt.join ⟨sep.toArray⟩ (ss.map fun s => (⟨s.toArray⟩ : Str)) = ⟨(joinL sep ss).toArray⟩ := by
  rw [join_eq]
  refine ext_tl ?_
  rw [tl_join, tl_mk, tl_mk]
  congr 1
  rw [List.map_map]
  exact List.map_id'' (fun s => tl_mk s) ss
theorem de_join (ha : DE C o ga) (hb : DE C e gb) (hs : noStar e = true := by rfl) (hsup : noSup o = true := by rfl) (hline : (apos.endLine == pos.line) = true := by rfl) : DE C (.Call (.Attribute o "join" apos) [e] [] pos) (gJoin ga gb) := fun X W ok tk => by
  refine peW (pe_join (ha X W ok tk) (de_frz hb X W ok tk) (star_eq hs) (base_ok hsup) hline) fun σ H Q h => rdE_bnd h fun H0 F ρ δ st Hs H v r S R P => ?_
  obtain ⟨sep, e1, P⟩ := opt_ok P
  refine ⟨⟨_, asS_v R e1⟩, H0, F, ρ, δ, st, S, PostE_bnd P fun F' ρ' st' H' u y A S' R' P' => ?_⟩
  obtain ⟨ds, e2, P2⟩ := opt_ok P'
  obtain ⟨ss, e3, P3⟩ := opt_ok P2
  split at P3
  · rename_i hl
    obtain ⟨p, vs, rfl, h1, h2⟩ := asQ_v S' R' e2
    rw [strs_eq e3] at h2
    have h3 := Reps.strs h2
    rw [h3] at h1
    refine ⟨_, p, _, asS_v R e1, rfl, h1, ?_, ?_⟩
    · rw [List.length_map, List.map_map, len_mk]
      have : (List.map (Str.length ∘ fun s => (⟨s.toArray⟩ : Str)) ss) = ss.map List.length := List.map_congr_left fun s _ => len_mk s
      rw [this]
      exact hl
    · rw [tl_glued]
      exact pS S' P3
  · exact P3.elim
end

/-! ### sorted -/
/-- insertion into a sorted list -/
def insD {α : Type} (le : α → α → Bool) (x : α) : List α → List α
  | [] => [x]
  | y :: ys => if le x y then x :: y :: ys else y :: insD le x ys
def isort {α : Type} (le : α → α → Bool) : List α → List α
  | [] => []
  | x :: xs => insD le x (isort le xs)
theorem insD_perm {α : Type} (le : α → α → Bool) (x : α) : ∀ l : List α, (insD le x l).Perm (x :: l)
  | [] => .refl _
  | y :: ys => by
    unfold insD
    split
    · exact .refl _
    · exact ((insD_perm le x ys).cons y).trans (.swap x y ys)
theorem isort_perm {α : Type} (le : α → α → Bool) : ∀ l : List α, (isort le l).Perm l
  | [] => .refl _
  | x :: xs => (insD_perm le x _).trans ((isort_perm le xs).cons x)
theorem insD_pw {α : Type} (le : α → α → Bool) (tot : ∀ a b, le a b = true ∨ le b a = true) (tr : ∀ a b c, le a b = true → le b c = true → le a c = true) (x : α) : ∀ l : List α, l.Pairwise (fun a b => le a b = true) → (insD le x l).Pairwise (fun a b => le a b = true)
  | [], _ => .cons (fun _ h => by cases h) .nil
  | y :: ys, h => by
    unfold insD
    cases h with
    | cons h1 h2 =>
      split
      · rename_i hxy
        refine .cons (fun z hz => ?_) (.cons h1 h2)
        rcases List.mem_cons.mp hz with rfl | hz
        · exact hxy
        · exact tr _ _ _ hxy (h1 z hz)
      · rename_i hxy
        refine .cons (fun z hz => ?_) (insD_pw le tot tr x ys h2)
        rcases List.mem_cons.mp ((insD_perm le x ys).mem_iff.mp hz) with rfl | hz
        · rcases tot z y with q | q
          · exact absurd q hxy
          · exact q
        · exact h1 z hz
theorem isort_pw {α : Type} (le : α → α → Bool) (tot : ∀ a b, le a b = true ∨ le b a = true) (tr : ∀ a b c, le a b = true → le b c = true → le a c = true) : ∀ l : List α, (isort le l).Pairwise (fun a b => le a b = true)
  | [] => .nil
  | x :: xs => insD_pw le tot tr x _ (isort_pw le tot tr xs)
/-- sorted lists of the same items are one -/
theorem sorted_uniq {α : Type} {le : α → α → Bool} (anti : ∀ a b, le a b = true → le b a = true → a = b) : ∀ {l m : List α}, l.Perm m → l.Pairwise (fun a b => le a b = true) → m.Pairwise (fun a b => le a b = true) → l = m
  | [], m, p, _, _ => (List.perm_nil.mp p.symm).symm
  | x :: l, m, p, h, h' => by
    cases m with
    | nil => exact absurd (List.perm_nil.mp p) (by simp)
    | cons y m =>
      cases h with
      | cons h1 h2 =>
        cases h' with
        | cons h3 h4 =>
          have e : x = y := by
            rcases List.mem_cons.mp (p.mem_iff.mp (List.mem_cons_self)) with q | q
            · exact q
            · rcases List.mem_cons.mp (p.mem_iff.mpr (List.mem_cons_self)) with q2 | q2
              · exact q2.symm
              · exact anti _ _ (h1 y q2) (h3 x q)
          subst e
          rw [sorted_uniq anti ((List.perm_cons x).mp p) h2 h4]
def leI (a b : Int) : Bool := decide (a ≤ b)
def leS (a b : List Nat) : Bool := !decide (b < a)
def kSortI : KN := k1 fun δ x st => (opt (x.asR δ st) fun ds => opt (ints? ds) fun ns => ret (.ow (.lst ((isort leI ns).map D.int)))) st
def kSortS : KN := k1 fun δ x st => (opt (x.asR δ st) fun ds => opt (strs? ds) fun ns => if ns.length < 64 then ret (.ow (.lst ((isort leS ns).map D.str))) else fail) st
def isInts (δ : DEnv) (rs : List Rv) (st : Sto) : Bool := match rs with
  | [x] => ((x.asR δ st).bind ints?).isSome
  | _ => false
def kSorted : KN := fun δ rs st => if isInts δ rs st then kSortI δ rs st else kSortS δ rs st
theorem FnK.orS {C : Ctx} {f : Value} {k k' : KN} {p : DEnv → List Rv → Sto → Bool} (h : FnK C f k) (h' : FnK C f k') : FnK C f (fun δ rs st => if p δ rs st then k δ rs st else k' δ rs st) := fun X ok => by
  obtain ⟨r, h1, h2⟩ := h X ok
  obtain ⟨r', h1', h2'⟩ := h' X ok
  refine ⟨_, h1.or h1', fun W H0 F ρ δ st σ H Hs rs vs Q S R P => ?_⟩
  dsimp only at P
  split at P
  · exact .inl (h2 W H0 F ρ δ st σ H Hs rs vs Q S R P)
  · exact .inr (h2' W H0 F ρ δ st σ H Hs rs vs Q S R P)
theorem leI_tot (a b : Int) : leI a b = true ∨ leI b a = true := by
  unfold leI
  simp only [decide_eq_true_eq]
  omega
theorem leI_tr (a b c : Int) : leI a b = true → leI b c = true → leI a c = true := by
  unfold leI
  simp only [decide_eq_true_eq]
  omega
theorem leI_anti (a b : Int) : leI a b = true → leI b a = true → a = b := by
  unfold leI
  simp only [decide_eq_true_eq]
  omega
section
variable {C : Ctx}
theorem ok_sortI : FnK C (.builtin "sorted") kSortI := fnK1 fun X ok => ⟨_, cr_sortedI, fun W H0 F ρ δ st σ H Hs x v Q S R P => by
  obtain ⟨ds, e1, P⟩ := opt_ok P
  obtain ⟨ns, e2, P⟩ := opt_ok P
  obtain ⟨p, vs, rfl, h1, h2⟩ := asR_v S R e1
  rw [ints_eq e2] at h2
  rw [Reps.ints h2] at h1
  refine ⟨p, ns, rfl, h1, fun ns' q hp hw nq => ?_⟩
  have e : ns' = isort leI ns := sorted_uniq leI_anti (hp.trans (isort_perm leI ns).symm) (hw.imp fun h => decide_eq_true h) (isort_pw leI leI_tot leI_tr ns)
  rw [e]
  exact new_own P S (.of_ints _) q nq⟩
theorem leS_iff {a b : List Nat} : leS a b = true ↔ a ≤ b := by
  unfold leS
  rw [Bool.not_eq_true', decide_eq_false_iff_not]
  exact List.not_lt
theorem leS_tot (a b : List Nat) : leS a b = true ∨ leS b a = true := by
  rw [leS_iff, leS_iff]
  exact List.le_total a b
theorem leS_tr (a b c : List Nat) : leS a b = true → leS b c = true → leS a c = true := by
  rw [leS_iff, leS_iff, leS_iff]
  exact List.le_trans
theorem leS_anti (a b : List Nat) : leS a b = true → leS b a = true → a = b := by
  rw [leS_iff, leS_iff]
  exact List.le_antisymm
theorem rising_pw : ∀ {x : Str} {l : List Str}, risingS x l = true → (x :: l).Pairwise (fun a b => leS (tl a) (tl b) = true)
  | x, [], _ => .cons (fun _ h => by cases h) .nil
  | x, y :: r, h => by
    unfold risingS at h
    rw [Bool.and_eq_true, ltCps_eq] at h
    have h2 := rising_pw h.2
    refine .cons (fun z hz => ?_) h2
    have h3 : leS (tl x) (tl y) = true := h.1
    rcases List.mem_cons.mp hz with rfl | hz
    · exact h3
    · cases h2 with
      | cons k1 k2 => exact leS_tr _ _ _ h3 (k1 z hz)
theorem sorted_pw : ∀ {l : List Str}, sortedS l = true → l.Pairwise (fun a b => leS (tl a) (tl b) = true)
  | [], _ => .nil
  | x :: r, h => rising_pw h
theorem ok_sortS : FnK C (.builtin "sorted") kSortS := fnK1 fun X ok => ⟨_, cr_sortedS, fun W H0 F ρ δ st σ H Hs x v Q S R P => by
  obtain ⟨ds, e1, P⟩ := opt_ok P
  obtain ⟨ns, e2, P⟩ := opt_ok P
  obtain ⟨p, vs, rfl, h1, h2⟩ := asR_v S R e1
  rw [strs_eq e2] at h2
  rw [Reps.strs h2] at h1
  split at P
  · rename_i hl
    refine ⟨p, _, rfl, h1, by rw [List.length_map]; exact hl, fun ys q hp hw nq => ?_⟩
    have hm : (ys.map tl).Perm ns := by
      have := hp.map tl
      rw [List.map_map] at this
      rw [show List.map (tl ∘ fun s => (⟨s.toArray⟩ : Str)) ns = ns from List.map_id'' (fun s => tl_mk s) ns] at this
      exact this
    have e : ys.map tl = isort leS ns := sorted_uniq leS_anti (hm.trans (isort_perm leS ns).symm) (List.pairwise_map.mpr (sorted_pw hw)) (isort_pw leS leS_tot leS_tr ns)
    have e2 : ys = (isort leS ns).map fun s => (⟨s.toArray⟩ : Str) := by
      rw [← e, List.map_map]
      exact (List.map_id'' (fun s => mk_tl s) ys).symm
    rw [e2]
    exact new_own P S (.of_strs _) q nq
  · exact P.elim⟩
theorem ok_sorted : FnK C (.builtin "sorted") kSorted := ok_sortI.orS ok_sortS
end

/-! ### a law's end -/
theorem law_sp {K : PySem.W.Frag} {mg : Str → Option Value} {f : List D → M Rv} (hf : ∀ ns : List Int, ns.length ≤ 63 → ∃ st', f [.rol (ns.map D.int)] [] = some (.ok (.fz (.bl true)), st')) :
    ∀ (H : Hp) (a : Addr) (ns : List Int), ns.length ≤ 63 → Only H → SqL K H a (ns.map V.int) → spD ⟨K, mg⟩ 1 f [.ref a] H (fun v _ => v = .bl true) fun _ _ _ => False := fun H a ns hl hO hS => by
  obtain ⟨st', e⟩ := hf ns hl
  refine ⟨H, [], [.rol (ns.map D.int)], [], ⟨Same.refl H, rfl, .nil, fun _ h => absurd h (by simp), fun n c h => by simp at h⟩, .cons (.rol hS (.of_ints ns)) .nil, rfl, ?_⟩
  rw [e]
  exact fun v ρ' F' H' A S R => Rep.bl_v R
end DL

/-! DL10: defs by the head's facts. -/
namespace DL
open PySem PySem.Spec PyProof.Rows L2 TL
set_option autoImplicit false
abbrev FnP (K : PySem.W.Frag) (x : Str) (st : Stmt) (f : Addr) (fd : FuncData) : Prop := FunD K x x (defArgs st) (defBody st) (defScope st) [] [] f fd
/-- a name stands for a def that keeps f's promise, at level k -/
def FnX (P : Program) (w : World) (K : PySem.W.Frag) (mg : Str → Option Value) (base : Heap) (k : Nat) (x : Str) (n : Nat) (f : List D → M Rv) : Prop :=
  ∃ (fa : Addr) (fd : FuncData) (ps : List Str), mg x = some (.ref fa) ∧ PySem.W.keepIn K (.ref fa) = true ∧ Binds K fd ps [] ∧ FnOk P w K mg base (L2.CX P w) k fa fd ps (spD ⟨K, mg⟩ n f)
section
variable {P : Program} {w : World} {K : PySem.W.Frag} {mg : Str → Option Value} {base : Heap} {k j n : Nat} {x : Str} {f : List D → M Rv}
theorem FnX.up (h : FnX P w K mg base j x n f) (l : j ≤ k) : FnX P w K mg base k x n f := by
  obtain ⟨fa, fd, ps, h1, h2, h3, h4⟩ := h
  exact ⟨fa, fd, ps, h1, h2, h3, h4.mono l⟩
theorem FnX.at {C : Ctx} (h : FnX C.P C.w C.K C.mg C.base j x n f) (l : j ≤ C.k) : FnD C x n f := h.up l
theorem fnokD {stm : Stmt} {fa : Addr} {fd : FuncData} {N ps : List Str} {gs : GS}
    (Fn : FnP K x stm fa fd) (Sc : FnScope N ps (defScope stm)) (hb : DSs ⟨P, w, K, mg, base, N, defScope stm, k, true⟩ (defBody stm) gs) :
    FnOk P w K mg base (L2.CX P w) (k + 1) fa fd ps (spD ⟨K, mg⟩ ps.length (runB N gs)) := by
  refine FunD.ok Fn Sc (fun vs H Q E h => spD_len h) fun cdv A outer s H vs Q E hr h => ?_
  obtain ⟨F, ρ, ds, st, S, R, hl, Po⟩ := h
  have ok : CtxOk ⟨P, w, K, mg, base, N, defScope stm, k, true⟩ (cxOf (L2.CX P w) P w K mg base N x (defScope stm) fa cdv A outer s H E) :=
    ⟨rfl, rfl, rfl, rfl, rfl, rfl, rfl, rfl, hr, passes_of rfl, Sc.nd, fun _ => rfl⟩
  refine ⟨_, hb _ (fun cls d _ H => E cls d H) ok (takes_of rfl rfl rfl (E := E) rfl), ?_⟩
  refine ⟨⟨H, F, ρ, F, ρ⟩, F, ρ, startD N ds, st, ⟨.refl, Same.refl F, ⟨[], by simp⟩⟩, start_ok S R, ?_⟩
  unfold runB at Po
  match e : gs (startD N ds) st, Po with
  | none, Po => exact Po
  | some (.nx δ', st'), Po => exact fun σ' ρ' F' H' A' S' => Po .non ρ' F' H' A'.a ⟨S'.fs, S'.sto⟩ .non
  | some (.rt r, st'), Po => exact fun v ρ' F' H' A' S' R' => Po v ρ' F' H' A'.a S' R'
  | some (.bk _, _), Po => exact Po.elim
  | some (.ct _, _), Po => exact Po.elim
  | some (.ex x δ', st'), Po => exact fun c d σ' ρ' F' H' A' S' R' => Po c d ρ' F' H' A'.a ⟨S'.fs, S'.sto⟩ R'
/-- a def that stands -/
theorem fnxD {stm : Stmt} {fa : Addr} {fd : FuncData} {N ps : List Str} {gs : GS}
    (Fn : FnP K x stm fa fd) (hm : mg x = some (.ref fa)) (Sc : FnScope N ps (defScope stm)) (hn : ps.length = n)
    (hbd : ∀ (kV doc pm : Value) (an : Option Addr) (cdv ct : Value) (us : List Value), us.length = ps.length → bindArgs (PySem.W.fnOf x x (defArgs stm) (defBody stm) (defScope stm) .none kV doc pm an cdv ct) ⟨us, []⟩ = pure (ps.zip us))
    (hb : DSs ⟨P, w, K, mg, base, N, defScope stm, k, true⟩ (defBody stm) gs) : FnX P w K mg base (k + 1) x n (runB N gs) := by
  subst hn
  exact ⟨fa, fd, ps, hm, Fn.kp, Fn.bindsN hbd, fnokD Fn Sc hb⟩
/-- a def that is never called well -/
theorem fnx0 {stm : Stmt} {fa : Addr} {fd : FuncData} {N ps : List Str}
    (Fn : FnP K x stm fa fd) (hm : mg x = some (.ref fa)) (Sc : FnScope N ps (defScope stm)) (hn : ps.length = n)
    (hbd : ∀ (kV doc pm : Value) (an : Option Addr) (cdv ct : Value) (us : List Value), us.length = ps.length → bindArgs (PySem.W.fnOf x x (defArgs stm) (defBody stm) (defScope stm) .none kV doc pm an cdv ct) ⟨us, []⟩ = pure (ps.zip us)) : FnX P w K mg base 1 x n (fun _ => fail) := by
  subst hn
  refine ⟨fa, fd, ps, hm, Fn.kp, Fn.bindsN hbd, ?_⟩
  refine FunD.ok Fn Sc (fun vs H Q E h => spD_len h) fun cdv A outer s H vs Q E hr h => ?_
  obtain ⟨F, ρ, ds, st, S, R, hl, Po⟩ := h
  exact Po.elim
end
section
variable {C : Ctx} {x : Str} {pos : Pos}
theorem de_gint {i : Int} (hg : Glo C x) (hm : ∃ t, C.mg x = some (.int i t)) (hdb : (x == ("__debug__" : Str)) = false := by decide) : DE C (.Name x pos) (gC (.int i)) := by
  obtain ⟨t, hm⟩ := hm
  exact de_glob (v := .int i) hg hm ⟨t, rfl⟩ (fun _ _ => .int) hdb
theorem de_gstr {z : Str} {s : List Nat} (hg : Glo C x) (hm : ∃ t, C.mg x = some (.str z t)) (e : tl z = s := by decide +kernel) (hdb : (x == ("__debug__" : Str)) = false := by decide) : DE C (.Name x pos) (gC (.str s)) := by
  obtain ⟨t, hm⟩ := hm
  subst e
  exact de_glob (v := .str z) hg hm ⟨t, rfl⟩ (fun _ _ => rep_str z) hdb
end
/-- nothing leaves a law -/
theorem CX_none {P : Program} {w : World} (H : Hp) (s : Shared) (e : Value) (s' : Shared) (h : L2.CX P w [] H s (fun _ _ _ => False) e s') : False := by
  unfold L2.CX at h
  first
    | exact h.elim
    | (obtain ⟨_, _, _, _, _, _, _, _, _, _, _, _, z⟩ := h; exact z.elim)
end DL

/-! DL11: what is never reached; a comprehension stored in a cell; the names of the boot. -/
namespace DL
open PySem PySem.Spec PyProof.Rows L2 TL
set_option autoImplicit false
section
variable {C : Ctx} {e tg : Expr} {es : List Expr}
def gNev : DEnv → M Rv := fun _ => fail
def gNevT : DEnv → M Bool := fun _ => fail
def gNevI : DEnv → M (List D) := fun _ => fail
def sNev : GS := fun _ _ => none
theorem de_never : DE C e gNev := fun X W ok tk => ⟨fun pins s σ H Q I h => by
  obtain ⟨H0, F, ρ, δ, st, S, P⟩ := h
  exact P.elim⟩
theorem dt_never : DT C e gNevT := fun X W ok tk => ⟨fun pins s σ H Q I h => by
  obtain ⟨H0, F, ρ, δ, st, S, P⟩ := h
  exact P.elim⟩
theorem di_never : DI C tg e gNevI := fun X W ok tk => ⟨fun pins s σ H Q I h => by
  obtain ⟨H0, F, ρ, δ, st, S, P⟩ := h
  exact P.elim⟩
theorem da_never : DA C es (fun _ => fail) := fun X W ok tk => ⟨fun pos pins s σ H Q I h => by
  obtain ⟨H0, F, ρ, δ, st, S, P⟩ := h
  exact P.elim⟩
theorem ds_nev {s : Stmt} : DS C s sNev := ds_never
end
section
variable {C : Ctx} {tg iter elt : Expr} {ifs : List Expr} {gi : DEnv → M (List D)} {t : GT} {tt : DEnv → M Bool} {te : DEnv → M Rv} {pos : Pos} {T : List Nat} {scope : Scope} {own : List (Str × Nat)} {y : Str} {py spos : Pos} {k : Nat}
theorem sw_cell {sc : Scope} {l : Nat} {env : Env} {gs : List Comprehension} (hy : env.scope.names.lookup y = some .cell) : swapsWith (.ListComp elt gs sc pos) (some (.Name y py)) l env = pure false := by
  have ky : env.kindOf y = some .cell := hy
  unfold swapsWith
  simp only [ky]
  cases env.blockKind <;> rfl
/-- a comprehension stored to a name that inner blocks read -/
theorem ds_setLcC (hN : C.N[k]? = some y) (hy : C.sc.names.lookup y = some .cell) (ht : C.top = true) {gs : List Comprehension} {ga : DEnv → M Rv} (ha : DE C (.ListComp elt gs scope pos) ga) :
    DS C (.Assign [.Name y py] (.ListComp elt gs scope pos) spos) (sSet k ga) := fun X W ok tk =>
  psW (ps_set (i := k) (by rw [ok.N]; exact ok.nd) (by rw [ok.N]; exact hN) (ok.loc (.inr ⟨ht, hy⟩)) (ha X W ok tk) (sw_cell (by rw [ok.sc]; exact hy)) (ok.fn (.inr ⟨ht, hy⟩))) fun D σ H h => set_rd h
end
theorem bt_len : bootBuiltins "len" = some (.builtin "len") := by decide +kernel
theorem bt_all : bootBuiltins "all" = some (.builtin "all") := by decide +kernel
theorem bt_any : bootBuiltins "any" = some (.builtin "any") := by decide +kernel
theorem bt_sum : bootBuiltins "sum" = some (.builtin "sum") := by decide +kernel
theorem bt_abs : bootBuiltins "abs" = some (.builtin "abs") := by decide +kernel
theorem bt_ord : bootBuiltins "ord" = some (.builtin "ord") := by decide +kernel
theorem bt_sorted : bootBuiltins "sorted" = some (.builtin "sorted") := by decide +kernel
theorem bt_isinstance : bootBuiltins "isinstance" = some (.builtin "isinstance") := by decide +kernel
theorem bt_list : bootBuiltins "list" = some (.type "list") := by decide +kernel
theorem bt_tuple : bootBuiltins "tuple" = some (.type "tuple") := by decide +kernel
theorem bt_int : bootBuiltins "int" = some (.type "int") := by decide +kernel
theorem bt_str : bootBuiltins "str" = some (.type "str") := by decide +kernel
theorem bt_bool : bootBuiltins "bool" = some (.type "bool") := by decide +kernel
theorem bt_dict : bootBuiltins "dict" = some (.type "dict") := by decide +kernel
end DL

/-! DL12: paths in a text, a law's end in every world. -/
namespace DL
open PySem PySem.Spec PyProof.Rows L2 TL
set_option autoImplicit false
def HD (K : PySem.W.Frag) (mg : Str → Option Value) (x : Str) (st : Stmt) : Prop := ∃ fa fd, FnP K x st fa fd ∧ mg x = some (.ref fa)
def sAt (ss : List Stmt) (i : Nat) : Stmt := ss.getD i (.Pass ⟨0, 0, 0, 0⟩)
def bodyOf : Stmt → List Stmt
  | .For _ _ b _ _ => b
  | .While _ b _ _ => b
  | .If _ b _ _ => b
  | .Try b _ _ _ _ => b
  | _ => []
def elseOf : Stmt → List Stmt
  | .For _ _ _ b _ => b
  | .While _ _ b _ => b
  | .If _ _ b _ => b
  | .Try _ _ b _ _ => b
  | _ => []
theorem le_lev {a b c : Nat} (h : a ≤ b) : a ≤ b + c + 1 := by omega
/-- a law's end: the promise in every world -/
theorem walkW {l : PySem.W.OpenLaw} {n k : Nat} {q : Program} {loose : List Str} {XP : (Str → Option Value) → Heap → Prop} {YP : World → Heap → Prop} {d : DefRec} {x : Str}
    (hn : l.most = some n) (hn2 : n ≤ sizeLine) (hdf : d.params.defaults = []) (hr : Room k callerA)
    (G : ∀ (w : World) (mg : Str → Option Value) (fa : Addr) (h : Heap), YP w h → h.Ns mainGlobals mg → mg d.name = some (.ref fa) →
      ∃ (K : PySem.W.Frag) (fd : FuncData) (sp : Sp), K.In h ∧ (∀ (s : Shared) (u : Value), BindsTo s fd ⟨[u], []⟩ [(x, u)]) ∧
        (∀ (H : Hp) (a : Addr) (ns : List Int), ns.length ≤ n → Only H → SqL K H a (ns.map V.int) → sp [.ref a] H (fun v _ => v = .bl true) fun _ _ _ => False) ∧
        ∀ base : Heap, K.In base → base.Ns mainGlobals mg → FnOk l.prog w K mg base (L2.CX l.prog w) k fa fd [x] sp) :
    PySem.W.WalkO q loose XP YP l.row.toRowW d [] (fun f vs => PySem.call f vs) :=
  Att.attach_call hn hdf fun w s₀ s₁ mg mb fa o pm cd doc a vs ns T Y _ _ _ hmg hobj hints hlen hg => by
    obtain ⟨K, fd, sp, h1, h2, h3, h4⟩ := G w mg fa _ Y T.T.g hmg
    exact law_call h1 T.T.g T.T.b T.T.builtins T.T.nolimit hg hobj hints (Nat.le_trans hlen hn2) hr h4 h2 (fun H hO hS => h3 H a ns hlen hO hS) fun H e s' z => CX_none H s₁ e s' z
end DL

/-! DL13: list(text). -/
namespace DL
open PySem PySem.Spec PyProof.Rows L2 TL
set_option autoImplicit false
def chrD (s : List Nat) : List D := s.map fun c => .str [c]
def chrV (s : List Nat) : List V := s.map fun c => .str ⟨#[c]⟩
theorem reps_chr {g : GG} {F : Hp} {ρ : List Addr} : ∀ s : List Nat, Reps g F ρ (chrD s) (chrV s)
  | [] => .nil
  | c :: s => .cons (.str (s := [c])) (reps_chr s)
theorem vals_of_at : ∀ {vs : List V} {us : List Value}, us.length = vs.length → (∀ (j : Nat) (u : Value), us[j]? = some u → ∃ v, vs[j]? = some v ∧ RelV v u) → Vals vs us
  | [], [], _, _ => .nil
  | v :: vs, u :: us, e, h => by
    refine .cons ?_ (vals_of_at (by simpa using e) fun j w hw => by simpa using h (j + 1) w (by simpa using hw))
    obtain ⟨v', h1, h2⟩ := h 0 u rfl
    cases h1
    exact h2
  | _ :: _, [], e, _ => by cases e
  | [], _ :: _, e, _ => by cases e
theorem call_list_s {X : Cx} (hc : X.calm = true) : CallR X (.type "list") (fun xs H Q => ∃ s : List Nat, xs = [.str ⟨s.toArray⟩] ∧ s.length ≤ sizeLine ∧ ∀ p, H p = none → Q (.ref p) (upd H p (.lst (chrV s)))) := by
  intro pins st σ H xs us Q I r h
  obtain ⟨s, rfl, hz, q⟩ := h
  obtain ⟨u, rfl, t, rfl⟩ := vals1 r
  refine PySem.call_list_str (I.ok.hd hc) ⟨s.toArray⟩ t (fun h' tk acc' c' hk hS hacc => ?_) (by simpa using hz)
  have hl : acc'.size = s.length := by simpa using hacc.1
  have hv : Vals (chrV s) acc'.toList := by
    refine vals_of_at (by rw [Array.length_toList, hl]; simp [chrV]) fun j v e => ?_
    rw [Array.getElem?_toList] at e
    obtain ⟨c, k, h1, rfl⟩ := hacc.2 j v e
    have h2 : s[j]? = some c := by simpa using h1
    exact ⟨.str ⟨#[c]⟩, by unfold chrV; rw [List.getElem?_map, h2]; rfl, ⟨k, rfl⟩⟩
  refine ⟨.ref st.heap.objs.size, upd H st.heap.objs.size (.lst (chrV s)), I.laid (t' := tk) hk (Nat.le_refl _) (show ObjOk X.prog X.w _ _ _ (.lst (chrV s)) from ⟨by unfold chrV; rw [List.length_map]; exact hz, acc'.toList, c', hv, by rw [Array.toArray_toList]; exact hS⟩), rfl, q _ (I.hok.fresh (Nat.le_refl _))⟩
def kListS : KN := k1 fun δ x st => (opt x.asS fun s => if s.length ≤ LIM then ret (.ow (.lst (chrD s))) else fail) st
theorem ok_listS {C : Ctx} : FnK C (.type "list") kListS := fnK1 fun X ok => ⟨_, call_list_s ok.calm, fun W H0 F ρ δ st σ H Hs x v Q S R P => by
  obtain ⟨s, e1, P⟩ := opt_ok P
  split at P
  · rename_i hl
    exact ⟨s, by rw [asS_v R e1], by rw [lim_eq]; exact hl, fun p np => new_own P S (reps_chr s) p np⟩
  · exact P.elim⟩
def isStr1 (_ : DEnv) (rs : List Rv) : Bool := match rs with
  | [x] => x.asS.isSome
  | _ => false
def kListA : KN := fun δ rs => if isStr1 δ rs then kListS δ rs else kList δ rs
theorem ok_listA {C : Ctx} : FnK C (.type "list") kListA := ok_listS.or ok_list
end DL

/-! DL14: x, y = a, b. -/
namespace DL
open PySem PySem.Spec PyProof.Rows L2 TL
set_option autoImplicit false
theorem swap2 {env : Env} {x y : Str} {a b : Expr} {px py pt pt2 : Pos} {kt k2 : Nat} (hk : env.scope.kind = .function) (hx : env.scope.names.lookup x = some .local) (hy : env.scope.names.lookup y = some .local) (hl : (py.line == px.line) = true) (hne : (y == x) = false)
    (ha : noStar a = true) (hb' : noStar b = true) (hf : [a, b].all (foldedForSure 8) = false) (hc : [a, b].all (constantsAlone 8) = false) : swappedStores [.Tuple [.Name x px, .Name y py] kt pt] (.Tuple [a, b] k2 pt2) env = pure (some [x, y]) := by
  have kx : env.kindOf x = some .local := hx
  have ky : env.kindOf y = some .local := hy
  have hb : env.blockKind = .function := by unfold Env.blockKind; rw [hk]; rfl
  have hl2 : py.line = px.line := by simpa using hl
  have hd : [x, y].eraseDups = [x, y] := by
    have : ¬ y = x := by simpa using hne
    simp [List.eraseDups, List.eraseDupsBy, List.eraseDupsBy.loop, hne]
  unfold swappedStores
  simp only [hb, hf, hc, kx, ky, hl2, List.filterMap, List.head?, Option.map, Option.getD, Expr.pos]
  simp
  rw [if_neg, hd]
  · rfl
  · rintro (h | h)
    · split at h
      · cases ha
      · cases h
    · split at h
      · cases hb'
      · cases h
/-- x, y = a, b: both values first -/
def sPar (i j : Nat) (gs : DEnv → M (List Rv)) : GS := fun δ => sBnd (gs δ) δ fun rs st => match allD rs with
  | some [d, e] => some (.nx ((δ.set i (some (.fz d))).set j (some (.fz e))), st)
  | _ => none
section
variable {C : Ctx} {x y : Str} {a b : Expr} {px py pt pt2 pos : Pos} {kt k2 i j : Nat} {gs : DEnv → M (List Rv)}
theorem ds_par (hi : C.N[i]? = some x) (hj : C.N[j]? = some y) (hx : C.sc.names.lookup x = some .local) (hy : C.sc.names.lookup y = some .local) (hk : C.sc.kind = .function) (ha : DA C [a, b] gs)
    (hij : Nat.beq i j = false := by rfl) (hl : (py.line == px.line) = true := by rfl) (hne : (y == x) = false := by decide) (na : noStar a = true := by rfl) (nb : noStar b = true := by rfl) (hf : [a, b].all (foldedForSure 8) = false := by rfl) (hc : [a, b].all (constantsAlone 8) = false := by rfl) :
    DS C (.Assign [.Tuple [.Name x px, .Name y py] kt pt] (.Tuple [a, b] k2 pt2) pos) (sPar i j gs) := fun X W ok tk => by
  have hsw := swap2 (env := X.env) (px := px) (py := py) (pt := pt) (pt2 := pt2) (kt := kt) (k2 := k2) (by rw [ok.sc]; exact hk) (by rw [ok.sc]; exact hx) (by rw [ok.sc]; exact hy) hl hne na nb hf hc
  refine psW (ps_par ok.calm (by rw [ok.N]; exact ok.nd) (by rw [ok.N]; exact hi) (by rw [ok.N]; exact hj) (Nat.ne_of_beq_eq_false hij) (by rw [ok.sc]; exact hx) (by rw [ok.sc]; exact hy) (ha X W ok tk) hsw) fun D σ H ⟨E, F, ρ, δ, st, A, S, P⟩ => ?_
  refine ⟨E.H0, F, ρ, δ, st, S, PostS_bndA A P fun F' ρ' st' H' vs rs A0 A' S' R' P' => ?_⟩
  cases q : allD rs with
  | none => rw [q] at P'; exact P'.elim
  | some ds =>
    rw [q] at P'
    match ds, q, P' with
    | [d, e], q, P' =>
      have r := allD_ok R' q
      match vs, r with
      | [v, w], .cons r1 (.cons r2 .nil) =>
        refine ⟨v, w, rfl, P' _ ρ' F' H' A' ?_⟩
        have s1 := set_ok (i := i) (r := .fz d) (ρ0 := ρ') (F0 := F') (fun c z => nomatch z) S' .refl S' r1 rfl
        exact set_ok (i := j) (r := .fz e) (ρ0 := ρ') (F0 := F') (fun c z => nomatch z) s1 .refl s1 r2 rfl
    | [], _, P' => exact P'.elim
    | [_], _, P' => exact P'.elim
    | _ :: _ :: _ :: _, _, P' => exact P'.elim
end
end DL

/-! DL15: a method that changes a new list which nobody keeps. -/
namespace DL
open PySem PySem.Spec PyProof.Rows L2 TL
set_option autoImplicit false
/-- (a new list).append(e): nothing is left of it -/
def sOwnT (ga : DEnv → M Rv) (gs : DEnv → M (List Rv)) (f : List D → List D → Option (List D)) : GS := fun δ => sBnd (ga δ) δ fun r => match r with
  | .ow (.lst ds) => sBnd (gs δ) δ fun rs st => match (allD rs).bind (f ds) with
    | some _ => some (.nx δ, st)
    | none => none
  | _ => fun _ => none
section
variable {C : Ctx} {o e : Expr} {es : List Expr} {ga : DEnv → M Rv} {gs : DEnv → M (List Rv)} {pos apos p1 : Pos} {m : Str} {id : String} {f : List D → List D → Option (List D)}
theorem ds_ownT {r : V → List V → Hp → VK → Prop} (slot : Slot "list" m id) (hty : typeOf (.builtin id) = pure (.type "method_descriptor")) (hm : ∀ X, CtxOk C X → MtR X id r) (mu : MutL r f)
    (ho : DE C o ga) (ha : DA C (e :: es) gs) (hsup : noSup o = true := by rfl) (hs : (e :: es).all noStar = true := by rfl) (hl : decide ((e :: es).length < 30) = true := by rfl) (hline : (apos.endLine == p1.line) = true := by rfl) :
    DS C (.Expr (.Call (.Attribute o m apos) (e :: es) [] p1) pos) (sOwnT ga gs f) := fun X W ok tk => by
  have hs2 : noStar e = true ∧ es.all noStar = true := by rw [List.all_cons, Bool.and_eq_true] at hs; exact hs
  refine psW (ps_expr (pe_bm PySem.F.plainAttrs_list slot hty (hm X ok) (ho X W ok tk) (ha X W ok tk) (base_ok hsup) (few_ok hs hl) hline (star_eq hs2.1) (star_none (e := e) hs2.2)) rfl) fun D σ H ⟨E, F, ρ, δ, st, A, S, P⟩ => ?_
  unfold sOwnT at P
  refine ⟨E.H0, F, ρ, δ, st, S, PostS_bnd A P fun F1 ρ1 st1 H1 v x A1 A1' S1 R1 P1 => ?_⟩
  match x, R1, P1 with
  | .ow (.lst ds), R1, P1 =>
    obtain ⟨a, rfl, e2, e3, e4, xs, e5, e6⟩ := R1
    refine ⟨.inl ⟨rfl, xs, .of e5⟩, E.H0, F1, ρ1, δ, st1, S1, PostS_bndA A1' P1 fun F2 ρ2 st2 H2 vs rs A2 A2' S2 R2 P2 => ?_⟩
    cases q3 : allD rs with
    | none => rw [q3] at P2; exact P2.elim
    | some es' =>
      rw [q3] at P2
      have r3 := allD_ok R2 q3
      cases q4 : f ds es' with
      | none => rw [show (some es').bind (f ds) = f ds es' from rfl, q4] at P2; exact P2.elim
      | some ds' =>
        rw [show (some es').bind (f ds) = f ds es' from rfl, q4] at P2
        have e5' := A2.hk _ _ e5 e3
        refine mu _ F2 ρ2 ds es' ds' xs vs a H2 _ S2.fs e5' (e6.mono A2.ff A2.ex) r3 q4 fun ys ry => ?_
        have n2 := A2.nmem e3 e5
        have f2 := A2.unf e5 e3 e2
        have bE : E.H0 a = none := A.a.back (fun z => e3 (A1.mem (A.a.mem z))) e4
        have ns : ∀ (i : Nat) (c : Con), δ[i]? = some (some (.ow c)) → σ[i]? ≠ some (some (.ref a)) := fun i c q z => by
          obtain ⟨u, u1, b, rfl, _, _, _, k⟩ := S.slot i _ q
          rw [z] at u1; cases u1
          obtain ⟨o', ho'⟩ := k.there
          rw [e4] at ho'; cases ho'
        exact P2 σ ρ2 F2 _ ⟨A2'.a.fill bE, A2'.b, A2'.p⟩ (S2.fill f2 n2 ns)
  | .ow (.dk _), _, P1 => exact P1.elim
  | .ow (.dt _), _, P1 => exact P1.elim
  | .ow (.obj _ _), _, P1 => exact P1.elim
  | .fz _, _, P1 => exact P1.elim
  | .vw _, _, P1 => exact P1.elim
theorem ds_appendT (ho : DE C o ga) (ha : DA C [e] gs) (hsup : noSup o = true := by rfl) (hs : [e].all noStar = true := by rfl) (hline : (apos.endLine == p1.line) = true := by rfl) :
    DS C (.Expr (.Call (.Attribute o "append" apos) [e] [] p1) pos) (sOwnT ga gs fAppend) :=
  ds_ownT PySem.F.slot_list_append PySem.F.type_list_append (fun X ok => mt_append) mu_append ho ha hsup hs rfl hline
end
end DL

/-! DL16: == of plain data, by a plain function. -/
namespace DL
open PySem PySem.Spec PyProof.Rows L2 TL
set_option autoImplicit false
/-- plain data of a depth -/
def D.ok : Nat → D → Bool
  | _, .non => true
  | _, .bl _ => true
  | _, .int _ => true
  | _, .str s => s.all fun c => decide (c < 0x110000)
  | n + 1, .tup ds => ds.all (D.ok n)
  | n + 1, .lst ds => ds.all (D.ok n)
  | _, _ => false
def ib (b : Bool) : Int := if b then 1 else 0
mutual
def deq : D → D → Bool
  | .non, e => match e with | .non => true | _ => false
  | .bl a, e => match e with | .bl b => a == b | .int j => decide (ib a = j) | _ => false
  | .int i, e => match e with | .int j => decide (i = j) | .bl b => decide (i = ib b) | _ => false
  | .str s, e => match e with | .str t => decide (s = t) | _ => false
  | .tup xs, e => match e with | .tup ys => deqs xs ys | _ => false
  | .lst xs, e => match e with | .lst ys => deqs xs ys | _ => false
  | .rol _, _ => false
  | .obj _ _, _ => false
  | .dk _, _ => false
  | .dt _, _ => false
  | .loc _, _ => false
  | .ty _, _ => false
def deqs : List D → List D → Bool
  | [], es => match es with | [] => true | _ :: _ => false
  | d :: ds, es => match es with | [] => false | e :: es => deq d e && deqs ds es
end
theorem ok_mono : ∀ {n m : Nat} {d : D}, n ≤ m → D.ok n d = true → D.ok m d = true
  | 0, m, d, _, h => by cases d <;> first | (simp [D.ok] at h; done) | (simpa [D.ok] using h)
  | n + 1, 0, d, hm, h => by omega
  | n + 1, m + 1, .non, hm, h => by simp [D.ok]
  | n + 1, m + 1, .bl _, hm, h => by simp [D.ok]
  | n + 1, m + 1, .int _, hm, h => by simp [D.ok]
  | n + 1, m + 1, .str _, hm, h => by simpa [D.ok] using h
  | n + 1, m + 1, .tup ds, hm, h => by
    rw [D.ok, List.all_eq_true] at h ⊢
    exact fun x hx => ok_mono (by omega) (h x hx)
  | n + 1, m + 1, .lst ds, hm, h => by
    rw [D.ok, List.all_eq_true] at h ⊢
    exact fun x hx => ok_mono (by omega) (h x hx)
  | n + 1, m + 1, .rol _, hm, h => by cases h
  | n + 1, m + 1, .obj _ _, hm, h => by cases h
  | n + 1, m + 1, .dk _, hm, h => by cases h
  | n + 1, m + 1, .dt _, hm, h => by cases h
  | n + 1, m + 1, .loc _, hm, h => by cases h
  | n + 1, m + 1, .ty _, hm, h => by cases h
theorem str_ok {s : List Nat} (h : (s.all fun c => decide (c < 0x110000)) = true) : PySem.PyData.strOk ⟨s.toArray⟩ = true := by
  unfold PySem.PyData.strOk
  simpa using h
theorem ok_py : ∀ {n : Nat} {d : D}, D.ok n d = true → ∃ p, d.py = some p ∧ p.canLay0 = true ∧ p.depth ≤ n
  | n, .non, _ => ⟨_, by rw [D.py], by simp [PyData.canLay0], by simp [PyData.depth]⟩
  | n, .bl _, _ => ⟨_, by rw [D.py], by simp [PyData.canLay0], by simp [PyData.depth]⟩
  | n, .int _, _ => ⟨_, by rw [D.py], by simp [PyData.canLay0], by simp [PyData.depth]⟩
  | n, .str s, h => ⟨_, by rw [D.py], by
      have : (s.all fun c => decide (c < 0x110000)) = true := by cases n <;> simpa [D.ok] using h
      simpa [PyData.canLay0] using str_ok this, by simp [PyData.depth]⟩
  | n + 1, .tup ds, h => by
    rw [D.ok] at h
    have key : ∀ l : List D, l.all (D.ok n) = true → ∃ ps, pyAll l = some ps ∧ PyData.canLayAll0 ps = true ∧ PyData.depthAll ps ≤ n := by
      intro l
      induction l with
      | nil => exact fun _ => ⟨[], by rw [pyAll], by simp [PyData.canLayAll0], by simp [PyData.depthAll]⟩
      | cons d l ih =>
        intro h
        rw [List.all_cons, Bool.and_eq_true] at h
        obtain ⟨p, h1, h2, h3⟩ := ok_py h.1
        obtain ⟨ps, h4, h5, h6⟩ := ih h.2
        exact ⟨p :: ps, by rw [pyAll, h1, h4], by simp [PyData.canLayAll0, h2, h5], by simp [PyData.depthAll]; omega⟩
    obtain ⟨ps, h1, h2, h3⟩ := key ds h
    exact ⟨_, by rw [D.py, h1]; rfl, by simpa [PyData.canLay0] using h2, by simp [PyData.depth]; omega⟩
  | n + 1, .lst ds, h => by
    rw [D.ok] at h
    have key : ∀ l : List D, l.all (D.ok n) = true → ∃ ps, pyAll l = some ps ∧ PyData.canLayAll0 ps = true ∧ PyData.depthAll ps ≤ n := by
      intro l
      induction l with
      | nil => exact fun _ => ⟨[], by rw [pyAll], by simp [PyData.canLayAll0], by simp [PyData.depthAll]⟩
      | cons d l ih =>
        intro h
        rw [List.all_cons, Bool.and_eq_true] at h
        obtain ⟨p, h1, h2, h3⟩ := ok_py h.1
        obtain ⟨ps, h4, h5, h6⟩ := ih h.2
        exact ⟨p :: ps, by rw [pyAll, h1, h4], by simp [PyData.canLayAll0, h2, h5], by simp [PyData.depthAll]; omega⟩
    obtain ⟨ps, h1, h2, h3⟩ := key ds h
    exact ⟨_, by rw [D.py, h1]; rfl, by simpa [PyData.canLay0] using h2, by simp [PyData.depth]; omega⟩
  | 0, .tup _, h => by cases h
  | 0, .lst _, h => by cases h
  | 0, .rol _, h => by cases h
  | 0, .obj _ _, h => by cases h
  | 0, .dk _, h => by cases h
  | 0, .dt _, h => by cases h
  | 0, .loc _, h => by cases h
  | 0, .ty _, h => by cases h
  | n + 1, .rol _, h => by cases h
  | n + 1, .obj _ _, h => by cases h
  | n + 1, .dk _, h => by cases h
  | n + 1, .dt _, h => by cases h
  | n + 1, .loc _, h => by cases h
  | n + 1, .ty _, h => by cases h
theorem ok_shaped {d : D} (h : D.ok 64 d = true) : d.shaped = true := by
  obtain ⟨p, h1, h2, h3⟩ := ok_py h
  unfold D.shaped
  rw [h1]
  unfold SeqAt.shaped
  simp [h2, h3]
mutual
theorem eqv_deq : ∀ {d e : D} {p q : PyData}, d.py = some p → e.py = some q → PyData.eqv p q = deq d e
  | .non, e, p, q, h, k => by
    rw [D.py] at h; cases h
    cases e <;> rw [D.py] at k <;> first | (cases k; simp [PyData.eqv, deq]; done) | (cases k; done) | (obtain ⟨x, _, rfl⟩ := Option.map_eq_some_iff.mp k; simp [PyData.eqv, deq])
  | .bl a, e, p, q, h, k => by
    rw [D.py] at h; cases h
    cases e <;> rw [D.py] at k <;> first | (cases k; simp [PyData.eqv, deq, ib]; done) | (cases k; rw [deq, PyData.eqv]; cases a <;> rfl; done) | (cases k; done) | (obtain ⟨x, _, rfl⟩ := Option.map_eq_some_iff.mp k; simp [PyData.eqv, deq])
  | .int i, e, p, q, h, k => by
    rw [D.py] at h; cases h
    cases e <;> rw [D.py] at k <;> first | (cases k; simp [PyData.eqv, deq, ib]; done) | (cases k; rw [deq, PyData.eqv]; rfl; done) | (cases k; done) | (obtain ⟨x, _, rfl⟩ := Option.map_eq_some_iff.mp k; simp [PyData.eqv, deq])
  | .str s, e, p, q, h, k => by
    rw [D.py] at h; cases h
    cases e with
    | str t =>
      rw [D.py] at k; cases k
      rw [deq, PyData.eqv]
      by_cases z : s = t
      · subst z; simp
      · have : ¬ (⟨s.toArray⟩ : Str) = ⟨t.toArray⟩ := fun e => z (by
          have := congrArg (fun x : Str => x.cps.toList) e
          simpa using this)
        simp [z]
    | tup _ => rw [D.py] at k; obtain ⟨x, _, rfl⟩ := Option.map_eq_some_iff.mp k; simp [PyData.eqv, deq]
    | lst _ => rw [D.py] at k; obtain ⟨x, _, rfl⟩ := Option.map_eq_some_iff.mp k; simp [PyData.eqv, deq]
    | _ => rw [D.py] at k; first | (cases k; simp [PyData.eqv, deq]; done) | cases k
  | .tup ds, e, p, q, h, k => by
    rw [D.py] at h
    obtain ⟨ps, h1, rfl⟩ := Option.map_eq_some_iff.mp h
    cases e with
    | tup es =>
      rw [D.py] at k
      obtain ⟨qs, k1, rfl⟩ := Option.map_eq_some_iff.mp k
      rw [deq, PyData.eqv]
      exact eqvs_deqs h1 k1
    | lst _ => rw [D.py] at k; obtain ⟨x, _, rfl⟩ := Option.map_eq_some_iff.mp k; simp [PyData.eqv, deq]
    | _ => rw [D.py] at k; first | (cases k; simp [PyData.eqv, deq]; done) | cases k
  | .lst ds, e, p, q, h, k => by
    rw [D.py] at h
    obtain ⟨ps, h1, rfl⟩ := Option.map_eq_some_iff.mp h
    cases e with
    | lst es =>
      rw [D.py] at k
      obtain ⟨qs, k1, rfl⟩ := Option.map_eq_some_iff.mp k
      rw [deq, PyData.eqv]
      exact eqvs_deqs h1 k1
    | tup _ => rw [D.py] at k; obtain ⟨x, _, rfl⟩ := Option.map_eq_some_iff.mp k; simp [PyData.eqv, deq]
    | _ => rw [D.py] at k; first | (cases k; simp [PyData.eqv, deq]; done) | cases k
  | .rol _, _, _, _, h, _ => by rw [D.py] at h; cases h
  | .obj _ _, _, _, _, h, _ => by rw [D.py] at h; cases h
  | .dk _, _, _, _, h, _ => by rw [D.py] at h; cases h
  | .dt _, _, _, _, h, _ => by rw [D.py] at h; cases h
  | .loc _, _, _, _, h, _ => by rw [D.py] at h; cases h
  | .ty _, _, _, _, h, _ => by rw [D.py] at h; cases h
theorem eqvs_deqs : ∀ {ds es : List D} {ps qs : List PyData}, pyAll ds = some ps → pyAll es = some qs → PyData.eqvAll ps qs = deqs ds es
  | [], es, ps, qs, h, k => by
    rw [pyAll] at h; cases h
    cases es with
    | nil => rw [pyAll] at k; cases k; simp [PyData.eqvAll, deqs]
    | cons e es =>
      rw [pyAll] at k
      split at k
      · cases k; simp [PyData.eqvAll, deqs]
      · cases k
  | d :: ds, es, ps, qs, h, k => by
    rw [pyAll] at h
    split at h
    · rename_i p ps' h1 h2
      cases h
      cases es with
      | nil => rw [pyAll] at k; cases k; simp [PyData.eqvAll, deqs]
      | cons e es =>
        rw [pyAll] at k
        split at k
        · rename_i q qs' k1 k2
          cases k
          rw [PyData.eqvAll, deqs, eqv_deq h1 k1, eqvs_deqs h2 k2]
        · cases k
    · cases h
end
theorem eqv_ok {n m : Nat} {d e : D} (h : D.ok n d = true) (k : D.ok m e = true) : d.eqv e = deq d e := by
  obtain ⟨p, h1, _⟩ := ok_py h
  obtain ⟨q, k1, _⟩ := ok_py k
  unfold D.eqv
  rw [h1, k1]
  exact eqv_deq h1 k1
/-- == of plain data -/
def kEqP (n : Bool) : K2 := fun δ x y => opt (x.dat δ) fun d => opt (y.dat δ) fun e => if D.ok 64 d && D.ok 64 e then rbv (xor n (deq d e)) else fail
def kEq' (n : Bool) : K2 := kOr (kI fun i j => rbv (xor n (decide (i = j)))) (kOr (kS fun s t => rbv (xor n (decide (s = t)))) (kEqP n) isSS) isII
theorem eqP_le {n : Bool} {δ : DEnv} {x y : Rv} {st : Sto} {o : Res Rv × Sto} (h : kEqP n δ x y st = some o) : kEqD n δ x y st = some o := by
  unfold kEqP at h
  unfold kEqD
  cases q : x.dat δ with
  | none => rw [q] at h; cases h
  | some d =>
    cases q2 : y.dat δ with
    | none => rw [q, q2] at h; cases h
    | some e =>
      rw [q, q2] at h
      have h' : (if D.ok 64 d && D.ok 64 e then rbv (xor n (deq d e)) else fail) st = some o := h
      show (if d.shaped && e.shaped then rbv (xor n (d.eqv e)) else fail) st = some o
      split at h'
      · rename_i hz
        rw [Bool.and_eq_true] at hz
        rw [if_pos (by rw [ok_shaped hz.1, ok_shaped hz.2]; rfl), eqv_ok hz.1 hz.2]
        exact h'
      · cases h'
theorem eq'_le {n : Bool} {δ : DEnv} {x y : Rv} {st : Sto} {o : Res Rv × Sto} (h : kEq' n δ x y st = some o) : kEq n δ x y st = some o := by
  unfold kEq' kOr at h
  unfold kEq kOr
  split at h
  · rename_i hz; rw [if_pos hz]; exact h
  · rename_i hz
    rw [if_neg hz]
    split at h
    · rename_i hy; rw [if_pos hy]; exact h
    · rename_i hy; rw [if_neg hy]; exact eqP_le h
/-- a reading that asks more -/
theorem CmpK.less {C : Ctx} {op : CmpOp} {k k' : K2} (h : CmpK C op k) (l : ∀ {δ x y st o}, k' δ x y st = some o → k δ x y st = some o) : CmpK C op k' := fun X ok => by
  obtain ⟨r, h1, h2⟩ := h X ok
  refine ⟨r, h1, fun W H0 F ρ δ st σ H Hs Ht x y v u Q S R R' P => ?_⟩
  cases q : k' δ x y st with
  | none => rw [q] at P; exact P.elim
  | some o =>
    rw [q] at P
    refine h2 W H0 F ρ δ st σ H Hs Ht x y v u Q S R R' ?_
    rw [l q]
    exact P
theorem ok_eq' {C : Ctx} : CmpK C .Eq (kEq' false) := ok_eq.less eq'_le
theorem ok_ne' {C : Ctx} : CmpK C .NotEq (kEq' true) := ok_ne.less eq'_le
end DL

/-! DL17: e[::-1], list(range), reversed. -/
namespace DL
open PySem PySem.Spec PyProof.Rows L2 TL
set_option autoImplicit false
theorem rev_idx (n : Nat) : Builtin.Str.strSliceIndices none none (-1) n = (List.range n).reverse := by
  show sliceRange ((n : Int) - 1) (-1) (-1) = _
  rw [PySem.W.krv_sliceRange, PySem.W.krv_range]
theorem range_pick {α : Type} (xs : Array α) : (List.range xs.size).filterMap (xs[·]?) = xs.toList := PySem.W.krv_all xs
/-- a list or a text from its end -/
def rRevA (K : PySem.W.Frag) : V → Hp → VK → Prop := fun x H Q => (∃ a xs, x = .ref a ∧ SqL K H a xs ∧ ∀ p, H p = none → Q (.ref p) (upd H p (.lst xs.reverse))) ∨ (∃ s : List Nat, x = .str ⟨s.toArray⟩ ∧ s.length ≤ sizeLine ∧ Q (.str ⟨s.reverse.toArray⟩) H)
theorem pe_revA {X : Cx} {e : Expr} {te : TE} {k : Nat} {p1 p2 p3 pos : Pos} (he : PE X e te) : PE X (.Subscript e (.Slice none none (some (.UnaryOp .USub (.Constant (.int 1) k p1) p2)) p3) pos) (fun σ H Q => te σ H fun x H1 => rRevA X.K x H1 Q) := by
  refine ⟨fun pins s σ H Q I h => ?_⟩
  refine Subscript_ (thn (he.run pins s σ H _ I h) fun v s1 ⟨x, H1, I1, r1, q1⟩ => ?_)
  have hst : PO X (some (.UnaryOp .USub (.Constant (.int 1) k p1) p2)) (tPart (tUn (rU fun i => .int (-i)) (tC (.int 1)))) := po_some (pe_un un_neg pe_int)
  refine wpAny_Slice (thn (po_none.run pins s1 σ H1 (fun o H2 => o = none ∧ H2 = H1) I1 ⟨rfl, rfl⟩) fun vl s2 ⟨l, H2, I2, pl, el, e2⟩ => ?_)
  subst el e2
  refine thn (po_none.run pins s2 σ H2 (fun o H3 => o = none ∧ H3 = H2) I2 ⟨rfl, rfl⟩) fun vu s3 ⟨u, H3, I3, pu, eu, e3⟩ => ?_
  subst eu e3
  refine thn (hst.run pins s3 σ H3 (fun o H4 => o = some (-1) ∧ H4 = H3) I3 ⟨1, rfl, -1, rfl, rfl, rfl⟩) fun vs s4 ⟨o, H4, I4, ps, eo, e4⟩ => ?_
  subst eo e4
  have I5 : Inv X pins σ H4 { s4 with heap := s4.heap.push { cls := .type "slice", data := .fields #[vl, vu, vs] } } := I4.kept (t' := s4.toks) fun b ob q => Heap.get?_push_of_some _ q
  rcases q1 with ⟨a, xs, ex, hx, q⟩ | ⟨z, ex, hz, q⟩
  · subst ex
    cases r1
    obtain ⟨its, r, ht, hz⟩ := I5.list hx
    have hlen := r.length
    show wpAny (model X.prog X.w) X.A (subscriptTail e (.Slice none none (some (.UnaryOp .USub (.Constant (.int 1) k p1) p2)) p3) (.ref a) (.ref s4.heap.objs.size)) (EP X pins σ Q) X.xe { s4 with heap := s4.heap.push { cls := .type "slice", data := .fields #[vl, vu, vs] } }
    refine tail_any (ops := [.ref a, .ref s4.heap.objs.size]) ht.isList.typeIs (PySem.slot_list_getitem.lookup) ?_ (by with_unfolding_all rfl)
    refine wpAny_getItem_list_slice ht.isList (Heap.IsSliceOf.new _ vl vu vs) pl pu ps (by decide) ?_ (by rw [List.size_toArray]; omega)
    rw [PySem.W.krv_pick]
    refine ⟨.ref _, _, I5.laid (t' := s4.toks) (o := .lst xs.reverse) (fun b ob q => Heap.get?_push_of_some _ q) (Nat.le_refl _) ?_, rfl, q _ (I5.hok.fresh (Nat.le_refl _))⟩
    exact ⟨by rw [List.length_reverse]; exact hz, _, 0, r.reverse, Heap.get?_push_size _ rfl⟩
  · subst ex
    obtain ⟨t, rfl⟩ := r1
    obtain ⟨l, rfl, hl1⟩ := IsPart.raw pl
    obtain ⟨u, rfl, hu1⟩ := IsPart.raw pu
    obtain ⟨w, rfl, hw1⟩ := IsPart.raw ps
    have el : l = none := by cases l with | none => rfl | some _ => cases hl1
    have eu : u = none := by cases u with | none => rfl | some _ => cases hu1
    subst el eu
    obtain ⟨tw, rfl⟩ : ∃ tw, w = some (-1, tw) := by
      cases w with
      | none => cases hw1
      | some p => obtain ⟨a, b⟩ := p; cases hw1; exact ⟨b, rfl⟩
    show wpAny (model X.prog X.w) X.A (subscriptTail e (.Slice none none (some (.UnaryOp .USub (.Constant (.int 1) k p1) p2)) p3) (.str ⟨z.toArray⟩ t) (.ref s4.heap.objs.size)) (EP X pins σ Q) X.xe _
    refine tail_any (ops := [.ref s4.heap.objs.size, .str ⟨z.toArray⟩ t]) (typeIs_str _ _ _) F.slot_str_getitem.lookup ?_ (by with_unfolding_all rfl)
    refine wpAny_getItem_str_slice (l := none) (u := none) (st := some (-1, tw)) ⟨_, Heap.get?_push_size _ rfl, rfl, rfl⟩ rfl ?_
    have key : ((Builtin.Str.strSliceIndices none none (-1) (⟨z.toArray⟩ : Str).length).filterMap ((⟨z.toArray⟩ : Str).cps[·]?)).toArray = z.reverse.toArray := by
      rw [rev_idx, List.filterMap_reverse]
      show ((List.range z.toArray.size).filterMap (z.toArray[·]?)).reverse.toArray = _
      rw [range_pick]
    show Made.post (if ((-1 : Int) == 1 && _) = true then Made.val (.str ⟨z.toArray⟩ t) else Made.str ⟨((Builtin.Str.strSliceIndices none none (-1) (⟨z.toArray⟩ : Str).length).filterMap ((⟨z.toArray⟩ : Str).cps[·]?)).toArray⟩) (EP X pins σ Q) _
    rw [if_neg (by simp), key]
    exact ⟨by show (z.reverse.toArray).size ≤ _; simpa using hz, .str _, H4, I5.tok _, ⟨_, rfl⟩, q⟩
def kRev : K1 := fun δ x st => (if x.asS.isSome then opt x.asS fun s => if s.length ≤ LIM then rsv s.reverse else fail else opt (x.asR δ st) fun ds => ret (.ow (.lst ds.reverse))) st
section
variable {C : Ctx} {e : Expr} {ga : DEnv → M Rv} {k : Nat} {p p1 p2 p3 pos : Pos}
theorem de_rev (ha : DE C e ga) : DE C (.Subscript e (.Slice none none (some (.UnaryOp .USub (.Constant (.int 1) k p1) p2)) p3) pos) (gUn kRev ga) := fun X W ok tk => by
  refine peW (pe_revA (ha X W ok tk)) fun σ H Q h => rdE_bnd h fun H0 F ρ δ st Hs H v r S R P => ?_
  unfold kRev at P
  split at P
  · obtain ⟨s, e1, P⟩ := opt_ok P
    split at P
    · rename_i hl
      exact .inr ⟨s, asS_v R e1, by rw [lim_eq]; exact hl, pS S P⟩
    · exact P.elim
  · obtain ⟨ds, e1, P⟩ := opt_ok P
    obtain ⟨a, vs, rfl, h1, h2⟩ := asR_v S R e1
    exact .inl ⟨a, vs, rfl, h1, fun q nq => new_own P S h2.reverse q nq⟩
/-! list(range(..)) -/
def gLstR1 (ga : DEnv → M Rv) : DEnv → M Rv := fun δ => bnd (ga δ) fun r => opt r.asI fun j => if okR j ∧ j ≤ 16777216 then ret (.ow (.lst (rangeD 0 j.toNat))) else fail
def gLstR2 (ga gb : DEnv → M Rv) : DEnv → M Rv := fun δ => bnd (ga δ) fun r => bnd (gb δ) fun r' => opt r.asI fun i => opt r'.asI fun j => if okR i ∧ okR j ∧ j - i ≤ 16777216 then ret (.ow (.lst (rangeD i (j - i).toNat))) else fail
theorem reps_range {g : GG} {F : Hp} {ρ : List Addr} {a b : Int} : Reps g F ρ (rangeD a (b - a).toNat) (rgV a b) := by
  unfold rangeD rgV
  induction List.range (b - a).toNat with
  | nil => exact .nil
  | cons x l ih => exact .cons .int ih
theorem okR_b {j : Int} (h : okR j = true) : -(2 ^ 62) ≤ j ∧ j < 2 ^ 62 := by
  unfold okR at h
  exact of_decide_eq_true h
theorem de_lstR1 {p2 pos2 : Pos} (hgl : Glo C "list") (hml : C.mg "list" = none) (hg : Glo C "range") (hm : C.mg "range" = none) (ha : DE C e ga) (hn : noStar e = true := by rfl) : DE C (.Call (.Name "list" p) [.Call (.Name "range" p2) [e] [] pos2] [] pos) (gLstR1 ga) := fun X W ok tk => by
  refine peW (pe_listRg ok.calm (ok.glo hgl) (by rw [ok.mg]; exact hml) (prg_1 (ok.glo hg) (by rw [ok.mg]; exact hm) (ha X W ok tk) (star_eq hn))) fun σ H Q h => rdE_bnd h fun H0 F ρ δ st Hs H v r S R P => ?_
  obtain ⟨j, e1, P⟩ := opt_ok P
  split at P
  · rename_i hj
    have := okR_b hj.1
    refine ⟨j, asI_v R e1, ⟨by decide, by decide, this.1, this.2, by omega⟩, fun q nq => ?_⟩
    rw [show j.toNat = (j - 0).toNat by simp] at P
    exact new_own P S reps_range q nq
  · exact P.elim
end
/-! reversed -/
section
variable {g : GG} {F : Hp} {ρ : List Addr} {a : Addr} {vs : List V} {ds : List D}
theorem rev_at {α : Type} {l : List α} {i : Nat} (h : i < l.length) : l.reverse[i]? = l[l.length - 1 - i]? := by
  rw [List.getElem?_reverse h]
theorem itd_revL (h : SqL g.K F a vs) (r : Reps g F ρ ds vs) : ItD g (Itv g.K a vs.length) ds.reverse F ρ := by
  have hl := r.length
  refine ⟨fun {F' ρ' H' i} e p s hi => by (show vs.length ≤ i); rw [← hl]; simpa using hi, fun {F' ρ' H' i} e p s hi => ?_, fun {F' ρ' H' H'' x d i} e p s hd hy => ?_⟩
  · rw [List.length_reverse] at hi
    obtain ⟨v, h1, _⟩ := r.get (List.getElem?_eq_getElem (show vs.length - 1 - i < ds.length by omega))
    exact ⟨by omega, vs, v, Same.seq s (Same.seq e h), h1⟩
  · obtain ⟨rfl, hx⟩ := hy
    have hi : i < ds.length := by have := (List.getElem?_eq_some_iff.mp hd).1; simpa using this
    rw [rev_at hi, hl] at hd
    obtain ⟨v, h1, h2⟩ := r.get hd
    have := hx vs (Same.seq s (Same.seq e h))
    rw [h1] at this; cases this
    exact ⟨F', Ext.refl s, h2.mono e p⟩
theorem itd_revT (h : SqT g.K F a vs) (r : Reps g F ρ ds vs) : ItD g (RT.ItvT g.K a vs.length) ds.reverse F ρ := by
  have hl := r.length
  refine ⟨fun {F' ρ' H' i} e p s hi => by (show vs.length ≤ i); rw [← hl]; simpa using hi, fun {F' ρ' H' i} e p s hi => ?_, fun {F' ρ' H' H'' x d i} e p s hd hy => ?_⟩
  · rw [List.length_reverse] at hi
    obtain ⟨v, h1, _⟩ := r.get (List.getElem?_eq_getElem (show vs.length - 1 - i < ds.length by omega))
    exact ⟨by omega, vs, v, Same.sqT s (Same.sqT e h), h1⟩
  · obtain ⟨rfl, hx⟩ := hy
    have hi : i < ds.length := by have := (List.getElem?_eq_some_iff.mp hd).1; simpa using this
    rw [rev_at hi, hl] at hd
    obtain ⟨v, h1, h2⟩ := r.get hd
    have := hx vs (Same.sqT s (Same.sqT e h))
    rw [h1] at this; cases this
    exact ⟨F', Ext.refl s, h2.mono e p⟩
end
/-- the items of a frozen list or tuple -/
def Rv.seqI : Rv → Option (List D)
  | .fz (.lst ds) => some ds
  | .fz (.rol ds) => some ds
  | .fz (.tup ds) => some ds
  | _ => none
def gRevI (ga : DEnv → M Rv) : DEnv → M (List D) := fun δ => bnd (gFrz ga δ) fun r => opt r.seqI fun ds => ret ds.reverse
section
variable {C : Ctx} {e tg : Expr} {ga : DEnv → M Rv} {p pos : Pos}
theorem di_rev (hg : Glo C "reversed") (hm : C.mg "reversed" = none) (h : DE C e ga) (hn : noStar e = true := by rfl) : DI C tg (.Call (.Name "reversed" p) [e] [] pos) (gRevI ga) := fun X W ok tk => by
  refine piW (RT.pi_revA (ok.glo hg) (by rw [ok.mg]; exact hm) (de_frz h X W ok tk) (star_eq hn)) fun σ H R ⟨H0, F, ρ, δ, st, S, P⟩ => ?_
  refine ⟨H0, F, ρ, δ, st, S, PostI_bnd P fun F' ρ' st' H' v r A' S' R' P' => ?_⟩
  match r, R', P' with
  | .fz (.lst ds), R', P' =>
    obtain ⟨a, vs, rfl, h1, h2⟩ := Rep.lst_v R'
    exact ⟨a, vs, rfl, .inl ⟨.of (S'.fs _ _ h1), P' _ ρ' F' H' A' S' (itd_revL (.of h1) h2)⟩⟩
  | .fz (.rol ds), R', P' =>
    cases R' with
    | rol h1 h2 => exact ⟨_, _, rfl, .inl ⟨Same.seq S'.fs h1, P' _ ρ' F' H' A' S' (itd_revL h1 h2)⟩⟩
  | .fz (.tup ds), R', P' =>
    obtain ⟨a, vs, rfl, h1, h2⟩ := Rep.tup_v R'
    exact ⟨a, vs, rfl, .inr ⟨Same.sqT S'.fs h1, P' _ ρ' F' H' A' S' (itd_revT h1 h2)⟩⟩
  | .ow _, _, P' => exact P'.elim
  | .vw _, _, P' => exact P'.elim
  | .fz .non, _, P' => exact P'.elim
  | .fz (.bl _), _, P' => exact P'.elim
  | .fz (.int _), _, P' => exact P'.elim
  | .fz (.str _), _, P' => exact P'.elim
  | .fz (.obj _ _), _, P' => exact P'.elim
  | .fz (.dk _), _, P' => exact P'.elim
  | .fz (.dt _), _, P' => exact P'.elim
  | .fz (.loc _), _, P' => exact P'.elim
  | .fz (.ty _), _, P' => exact P'.elim
end
end DL

/-! DL18: x, y, .. = a, b, ..: what is owned stays owned. -/
namespace DL
open PySem PySem.Spec PyProof.Rows L2 TL
set_option autoImplicit false
theorem St0.later {g : GG} {H0 F H F' H' : Hp} {ρ ρ' : List Addr} {δ : DEnv} {σ : L2.St} {st st' : Sto} (S : St0 g H0 F ρ δ st σ H) (A : After ρ F H ρ' F' H') (fs : Same F' H') (sto : StoOk g F' ρ' st' H') : St0 g H0 F' ρ' δ st' σ H' := by
  refine ⟨fs, S.len, fun i sv h => ?_, S.dist, sto⟩
  obtain ⟨v, h1, h2⟩ := S.slot i sv h
  refine ⟨v, h1, ?_⟩
  cases sv with
  | fz d => exact Rep.mono A.ff A.ex h2
  | ow c =>
    obtain ⟨a, e1, e2, e3, e4, e5⟩ := h2
    obtain ⟨o, ho⟩ := e5.there
    exact ⟨a, e1, A.unf ho e3 e2, A.nmem e3 ho, e4, e5.mono e3 A⟩
/-- all values first (in the slots δ0), then the stores -/
def sManyK (δ0 : DEnv) : List (Nat × (DEnv → M Rv)) → DEnv → Sto → Option (Fl × Sto)
  | [], δ' => fun st => some (.nx δ', st)
  | (i, g) :: r, δ' => sBnd (g δ0) δ0 fun x st => match setR i x δ' with
    | some δ'' => sManyK δ0 r δ'' st
    | none => none
def sMany (ps : List (Nat × (DEnv → M Rv))) : GS := fun δ => sManyK δ ps δ
inductive DMany (C : Ctx) : List Expr → List (Nat × (DEnv → M Rv)) → Prop
  | nil : DMany C [] []
  | cons {e : Expr} {es : List Expr} {i : Nat} {g : DEnv → M Rv} {ps : List (Nat × (DEnv → M Rv))} (h : DE C e g) (r : DMany C es ps) (hs : noStar e = true := by rfl) : DMany C (e :: es) ((i, g) :: ps)
def setAll : List Nat → List V → L2.St → L2.St
  | i :: is, v :: vs, σ => setAll is vs (σ.set i (some v))
  | _, _, σ => σ
def tMany (X : Cx) (W : WX) (ps : List (Nat × (DEnv → M Rv))) : TA := fun σ H Q => ∃ E D F ρ δ0 δ' σ' st, Lat E ρ F H ∧ St0 (xg X) E.H0 F ρ δ0 st σ H ∧ St0 (xg X) E.H0 F ρ δ' st σ' H ∧ PostS (xg X) W E (sManyK δ0 ps δ' st) D ∧
  ∀ vs H1 F1 ρ1 δ1 st1, vs.length = ps.length → Lat E ρ1 F1 H1 → St0 (xg X) E.H0 F1 ρ1 δ1 st1 (setAll (ps.map Prod.fst) vs σ') H1 → PostS (xg X) W E (some (.nx δ1, st1)) D → Q vs H1
theorem pa_many {C : Ctx} {X : Cx} {W : WX} {es : List Expr} {ps : List (Nat × (DEnv → M Rv))} (h : DMany C es ps) (ok : CtxOk C X) (tk : Takes X W) : PA X es (tMany X W ps) := by
  induction h with
  | nil => exact paW pa_nil fun σ H Q ⟨E, D, F, ρ, δ0, δ', σ', st, A, S, S', P, k⟩ => k [] H F ρ δ' st rfl A S' P
  | @cons e es i g ps h r hs ih =>
    refine paW (pa_cons (h X W ok tk) ih (star_eq hs)) fun σ H Q ⟨E, D, F, ρ, δ0, δ', σ', st, A, S, S', P, k⟩ => ?_
    refine ⟨E.H0, F, ρ, δ0, st, S, PostS_bnd A P fun F1 ρ1 st1 H1 v x A1 A1' S1 R1 P1 => ?_⟩
    cases q : setR i x δ' with
    | none => rw [q] at P1; exact P1.elim
    | some δ'' =>
      rw [q] at P1
      have S2 := S'.later A1 S1.fs S1.sto
      have R2 : RepR (xg X) F1 ρ1 δ' σ' H H1 x v := by
        cases x with
        | fz d => exact R1
        | ow c => exact R1
        | vw j => unfold setR Rv.sv at q; cases q
      have S3 := set_ok (fun _ _ => A.a) S' A1 S2 R2 q
      refine ⟨E, D, F1, ρ1, δ0, δ'', σ'.set i (some v), st1, A1', S1, S3, P1, fun vs H2 F2 ρ2 δ2 st2 hl A2 S4 P2 => ?_⟩
      exact k (v :: vs) H2 F2 ρ2 δ2 st2 (by simp [hl]) A2 S4 P2
section
variable {C : Ctx} {x y z : Str} {a b c : Expr} {px py pz pt pt2 pos : Pos} {kt k2 i j l : Nat} {ga gb gc : DEnv → M Rv}
theorem many_rd {X : Cx} {W : WX} {D : Ends} {σ : L2.St} {H : Hp} {ps : List (Nat × (DEnv → M Rv))} {Q : List V → Hp → Prop} (h : rdS (xg X) W (sMany ps) D σ H)
    (k : ∀ E vs H1 F1 ρ1 δ1 st1, vs.length = ps.length → Lat E ρ1 F1 H1 → St0 (xg X) E.H0 F1 ρ1 δ1 st1 (setAll (ps.map Prod.fst) vs σ) H1 → PostS (xg X) W E (some (.nx δ1, st1)) D → Q vs H1) : tMany X W ps σ H Q := by
  obtain ⟨E, F, ρ, δ, st, A, S, P⟩ := h
  exact ⟨E, D, F, ρ, δ, δ, σ, st, A, S, S, P, k E⟩
theorem len2 {α : Type} {l : List α} (h : l.length = 2) : ∃ u v, l = [u, v] := by
  match l, h with
  | [u, v], _ => exact ⟨u, v, rfl⟩
theorem len3 {α : Type} {l : List α} (h : l.length = 3) : ∃ u v w, l = [u, v, w] := by
  match l, h with
  | [u, v, w], _ => exact ⟨u, v, w, rfl⟩
/-- two local names on one row -/
theorem ds_many2 (hi : C.N[i]? = some x) (hj : C.N[j]? = some y) (hx : C.sc.names.lookup x = some .local) (hy : C.sc.names.lookup y = some .local) (hk : C.sc.kind = .function) (ha : DMany C [a, b] [(i, ga), (j, gb)])
    (hij : Nat.beq i j = false := by rfl) (hl : (py.line == px.line) = true := by rfl) (hne : (y == x) = false := by decide) (na : noStar a = true := by rfl) (nb : noStar b = true := by rfl) (hf : [a, b].all (foldedForSure 8) = false := by rfl) (hc : [a, b].all (constantsAlone 8) = false := by rfl) :
    DS C (.Assign [.Tuple [.Name x px, .Name y py] kt pt] (.Tuple [a, b] k2 pt2) pos) (sMany [(i, ga), (j, gb)]) := fun X W ok tk => by
  have hsw := swap2 (env := X.env) (px := px) (py := py) (pt := pt) (pt2 := pt2) (kt := kt) (k2 := k2) (by rw [ok.sc]; exact hk) (by rw [ok.sc]; exact hx) (by rw [ok.sc]; exact hy) hl hne na nb hf hc
  refine psW (ps_par ok.calm (by rw [ok.N]; exact ok.nd) (by rw [ok.N]; exact hi) (by rw [ok.N]; exact hj) (Nat.ne_of_beq_eq_false hij) (by rw [ok.sc]; exact hx) (by rw [ok.sc]; exact hy) (pa_many ha ok tk) hsw) fun D σ H h => ?_
  refine many_rd h fun E vs H1 F1 ρ1 δ1 st1 hl A1 S1 P1 => ?_
  obtain ⟨u, v, rfl⟩ := len2 hl
  exact ⟨u, v, rfl, P1 _ ρ1 F1 H1 A1 S1⟩
theorem swap3 {env : Env} (hk : env.scope.kind = .function) (hx : env.scope.names.lookup x = some .local) (hy : env.scope.names.lookup y = some .local) (hz : env.scope.names.lookup z = some .local) (hl : (py.line == px.line) = true) (hl2 : (pz.line == px.line) = true)
    (hd : ([x, y, z].eraseDups == [x, y, z]) = true) (ha : noStar a = true) (hb' : noStar b = true) (hc' : noStar c = true) (hf : [a, b, c].all (foldedForSure 8) = false) (hc : [a, b, c].all (constantsAlone 8) = false) :
    swappedStores [.Tuple [.Name x px, .Name y py, .Name z pz] kt pt] (.Tuple [a, b, c] k2 pt2) env = pure (some [x, y, z]) := by
  have kx : env.kindOf x = some .local := hx
  have ky : env.kindOf y = some .local := hy
  have kz : env.kindOf z = some .local := hz
  have hb : env.blockKind = .function := by unfold Env.blockKind; rw [hk]; rfl
  have hl3 : py.line = px.line := by simpa using hl
  have hl4 : pz.line = px.line := by simpa using hl2
  have hd2 : [x, y, z].eraseDups = [x, y, z] := by simpa using hd
  unfold swappedStores
  simp only [hb, hf, hc, kx, ky, kz, hl3, hl4, List.filterMap, List.head?, Option.map, Option.getD, Expr.pos]
  simp
  rw [if_neg, hd2]
  · rfl
  · rintro (h | h | h)
    · split at h
      · cases ha
      · cases h
    · split at h
      · cases hb'
      · cases h
    · split at h
      · cases hc'
      · cases h
/-- three local names on one row -/
theorem ds_many3 (hi : C.N[i]? = some x) (hj : C.N[j]? = some y) (hl0 : C.N[l]? = some z) (hx : C.sc.names.lookup x = some .local) (hy : C.sc.names.lookup y = some .local) (hz : C.sc.names.lookup z = some .local) (hk : C.sc.kind = .function) (ha : DMany C [a, b, c] [(i, ga), (j, gb), (l, gc)])
    (hij : Nat.beq i j = false := by rfl) (hil : Nat.beq i l = false := by rfl) (hjl : Nat.beq j l = false := by rfl) (hl : (py.line == px.line) = true := by rfl) (hl2 : (pz.line == px.line) = true := by rfl) (hd : ([x, y, z].eraseDups == [x, y, z]) = true := by decide +kernel)
    (na : noStar a = true := by rfl) (nb : noStar b = true := by rfl) (nc : noStar c = true := by rfl) (hf : [a, b, c].all (foldedForSure 8) = false := by rfl) (hc : [a, b, c].all (constantsAlone 8) = false := by rfl) :
    DS C (.Assign [.Tuple [.Name x px, .Name y py, .Name z pz] kt pt] (.Tuple [a, b, c] k2 pt2) pos) (sMany [(i, ga), (j, gb), (l, gc)]) := fun X W ok tk => by
  have hsw := swap3 (env := X.env) (px := px) (py := py) (pz := pz) (pt := pt) (pt2 := pt2) (kt := kt) (k2 := k2) (by rw [ok.sc]; exact hk) (by rw [ok.sc]; exact hx) (by rw [ok.sc]; exact hy) (by rw [ok.sc]; exact hz) hl hl2 hd na nb nc hf hc
  refine psW (ps_par3 ok.calm (by rw [ok.N]; exact ok.nd) (by rw [ok.N]; exact hi) (by rw [ok.N]; exact hj) (by rw [ok.N]; exact hl0) (Nat.ne_of_beq_eq_false hij) (Nat.ne_of_beq_eq_false hil) (Nat.ne_of_beq_eq_false hjl) (by rw [ok.sc]; exact hx) (by rw [ok.sc]; exact hy) (by rw [ok.sc]; exact hz) (pa_many ha ok tk) hsw) fun D σ H h => ?_
  refine many_rd h fun E vs H1 F1 ρ1 δ1 st1 hl A1 S1 P1 => ?_
  obtain ⟨u, v, w, rfl⟩ := len3 hl
  exact ⟨u, v, w, rfl, P1 _ ρ1 F1 H1 A1 S1⟩
end
/-! names that inner blocks read, or values that are all written: the tuple is made and taken apart -/
/-- one of the targets is no local name -/
def notLoc (sc : Scope) : Expr → Bool
  | .Name id _ => !(sc.names.lookup id == some .local)
  | _ => true
theorem swap_none_any {env : Env} {ts vs : List Expr} {kt k2 : Nat} {pt pt2 : Pos} (h : ts.any (notLoc env.scope) = true) : swappedStores [.Tuple ts kt pt] (.Tuple vs k2 pt2) env = pure none := by
  have key : ∀ (f : Expr → Option Str), (∀ e, notLoc env.scope e = true → f e = none) → (ts.filterMap f).length ≠ ts.length := fun f hf => by
    have : ∀ l : List Expr, (l.filterMap f).length ≤ l.length := fun l => List.length_filterMap_le ..
    have k2 : ∀ l : List Expr, l.any (notLoc env.scope) = true → (l.filterMap f).length < l.length := fun l => by
      induction l with
      | nil => exact fun h => by cases h
      | cons e l ih =>
        intro h
        rw [List.any_cons, Bool.or_eq_true] at h
        cases q : f e with
        | none =>
          rw [List.filterMap_cons_none q, List.length_cons]
          exact Nat.lt_succ_of_le (this l)
        | some x =>
          rcases h with h | h
          · rw [hf e h] at q; cases q
          · rw [List.filterMap_cons_some q, List.length_cons, List.length_cons]
            exact Nat.succ_lt_succ (ih h)
    exact Nat.ne_of_lt (k2 ts h)
  unfold swappedStores
  dsimp only
  split
  · rfl
  · split
    · rfl
    · rename_i q1 q2
      rw [if_pos]
      rw [Bool.or_eq_true]
      left
      rw [bne_iff_ne]
      refine key _ fun e he => ?_
      cases e <;> first | rfl | skip
      rename_i id p
      have : ¬ (env.kindOf id == some .local) = true := by
        have h0 : (!(env.scope.names.lookup id == some .local)) = true := he
        unfold Env.kindOf
        simpa using h0
      simp only [Bool.and_eq_true]
      rw [if_neg (fun z => this z.1)]
theorem swap_none_fold {env : Env} {ts vs : List Expr} {kt k2 : Nat} {pt pt2 : Pos} (h : vs.all (foldedForSure 8) = true) : swappedStores [.Tuple ts kt pt] (.Tuple vs k2 pt2) env = pure none := by
  unfold swappedStores
  dsimp only
  split
  · rfl
  · split
    · rfl
    · split
      · rfl
      · first | rfl | (rw [if_pos h]; rfl)
/-- names as targets -/
inductive DNames (C : Ctx) : List Expr → List Nat → Prop
  | nil : DNames C [] []
  | cons {x : Str} {p : Pos} {i : Nat} {ts : List Expr} {is : List Nat} (hi : C.N[i]? = some x) (hx : Stor C x) (r : DNames C ts is) : DNames C (.Name x p :: ts) (i :: is)
def tSets : List Nat → TGs
  | [] => L2.gNil
  | i :: is => L2.gCons (L2.gName i) (tSets is)
theorem pgs_names {C : Ctx} {X : Cx} {ts : List Expr} {is : List Nat} (h : DNames C ts is) (ok : CtxOk C X) : PGs X ts (tSets is) := by
  induction h with
  | nil => exact pgs_nil
  | cons hi hx r ih => exact pgs_cons (pg_name (by rw [ok.N]; exact ok.nd) (by rw [ok.N]; exact hi) (ok.loc hx) (ok.fn hx)) ih
theorem sets_all : ∀ {is : List Nat} {vs : List V} {σ : L2.St} {H : Hp} {Q : L2.St → Hp → Prop}, vs.length = is.length → Q (setAll is vs σ) H → tSets is vs σ H Q
  | [], [], _, _, _, _, q => ⟨rfl, q⟩
  | i :: is, v :: vs, _, _, _, e, q => ⟨v, vs, rfl, sets_all (by simpa using e) q⟩
  | [], _ :: _, _, _, _, e, _ => by cases e
  | _ :: _, [], _, _, _, e, _ => by cases e
section
variable {C : Ctx} {ts es : List Expr} {ps : List (Nat × (DEnv → M Rv))} {kt k2 : Nat} {pt pt2 pos : Pos}
theorem ds_manyT (ht : DNames C ts (ps.map Prod.fst)) (ha : DMany C es ps) (hw : (ts.any (notLoc C.sc) || es.all (foldedForSure 8)) = true := by rfl) (hl : decide (es.length ≤ 30) = true := by rfl) (hle : decide (ts.length = ps.length) = true := by rfl) :
    DS C (.Assign [.Tuple ts kt pt] (.Tuple es k2 pt2) pos) (sMany ps) := fun X W ok tk => by
  have hsw : swappedStores [.Tuple ts kt pt] (.Tuple es k2 pt2) X.env = pure none := by
    rw [Bool.or_eq_true] at hw
    rcases hw with h | h
    · exact swap_none_any (by rw [ok.sc]; exact h)
    · exact swap_none_fold h
  have hn : (assignEach ts X.env).length = ps.length := by
    rw [← of_decide_eq_true hle]
    have : ∀ l : List Expr, ∀ is, DNames C l is → (assignEach l X.env).length = l.length := fun l => by
      induction l with
      | nil => exact fun _ _ => rfl
      | cons t l ih =>
        intro is h
        cases h with
        | cons hi hx r =>
          have := ih _ r
          show (assignEach (.Name _ _ :: l) X.env).length = _
          rw [show assignEach (.Name _ _ :: l) X.env = (false, assign (.Name _ _) X.env) :: assignEach l X.env from rfl]
          simp [this]
    exact this ts _ ht
  have hst : (assignEach ts X.env).findIdx? (·.1) = none := by
    have : ∀ l : List Expr, ∀ is, DNames C l is → (assignEach l X.env).findIdx? (·.1) = none := fun l => by
      induction l with
      | nil => exact fun _ _ => rfl
      | cons t l ih =>
        intro is h
        cases h with
        | cons hi hx r =>
          have := ih _ r
          rw [show assignEach (.Name _ _ :: l) X.env = (false, assign (.Name _ _) X.env) :: assignEach l X.env from rfl, List.findIdx?_cons]
          simp [this]
    exact this ts _ ht
  refine psW (ps_asg (pe_tup (pa_many ha ok tk)) (pg_tup (n := ps.length) ok.calm (pgs_names ht ok) hn hst) (swapsSole rfl) hsw (assign_cons rfl)) fun D σ H h => ?_
  refine many_rd h fun E vs H1 F1 ρ1 δ1 st1 hlv A1 S1 P1 => ⟨?_, fun p np => ?_⟩
  · rw [hlv, ← of_decide_eq_true hle]
    have : ts.length = es.length := by
      have h1 : ∀ l ps, DMany C l ps → l.length = ps.length := fun l ps h => by
        induction h with
        | nil => rfl
        | cons _ _ _ ih => simp [ih]
      rw [h1 _ _ ha]; exact of_decide_eq_true hle
    have h2 := of_decide_eq_true hl
    rw [this, sizeLine_eq]
    omega
  · have e2 := ext_new (o := .tup vs) S1.fs np
    refine ⟨p, vs, rfl, .inl (.inl upd_same), hlv, sets_all (by rw [hlv, List.length_map]) ?_⟩
    exact P1 _ ρ1 F1 _ (A1.step e2.after) (S1.ext e2)
end
end DL

/-! DM1: the readings evaluated. -/
namespace DL
open PySem PySem.Spec PyProof.Rows L2 TL
set_option autoImplicit false
section
variable {α β : Type} {δ : DEnv} {st st' : Sto} {i j : Int} {b c : Bool} {s t : List Nat} {x y : Rv} {ds es : List D} {d e : D} {n : Nat}
@[simp] theorem ret_ap (a : α) : ret a st = some (.ok a, st) := (rfl)
@[simp] theorem fail_ap : (fail : M α) st = none := (rfl)
@[simp] theorem bnd_ret (a : α) (k : α → M β) : bnd (ret a) k = k a := (rfl)
@[simp] theorem bnd_fail (k : α → M β) : bnd fail k = fail := (rfl)
theorem bnd_ok {m : M α} {k : α → M β} {a : α} (h : m st = some (.ok a, st')) : bnd m k st = k a st' := by unfold bnd; rw [h]
@[simp] theorem opt_s {a : α} {f : α → M β} : opt (some a) f = f a := (rfl)
@[simp] theorem opt_n {f : α → M β} : opt none f = fail := (rfl)
@[simp] theorem riv_eq : riv i = ret (.fz (.int i)) := (rfl)
@[simp] theorem rbv_eq : rbv b = ret (.fz (.bl b)) := (rfl)
@[simp] theorem rsv_eq : rsv s = ret (.fz (.str s)) := (rfl)
@[simp] theorem gC_ap : gC d δ = ret (.fz d) := (rfl)
theorem gVar_fz (h : δ[n]? = some (some (.fz d))) : gVar n δ = ret (.fz d) := by unfold gVar; rw [h]
theorem gVar_ow {c : Con} (h : δ[n]? = some (some (.ow c))) : gVar n δ = ret (.vw n) := by unfold gVar; rw [h]
@[simp] theorem asI_i : (Rv.fz (.int i)).asI = some i := (rfl)
@[simp] theorem asB_b : (Rv.fz (.bl b)).asB = some b := (rfl)
@[simp] theorem asS_s : (Rv.fz (.str s)).asS = some s := (rfl)
@[simp] theorem asT_t : (Rv.fz (.tup ds)).asT = some ds := (rfl)
@[simp] theorem frz_fz : (Rv.fz d).frz = .fz d := (rfl)
@[simp] theorem frz_ow {c : Con} : (Rv.ow c).frz = .fz c.fz := (rfl)
@[simp] theorem confz_l : (Con.lst ds).fz = .lst ds := (rfl)
@[simp] theorem out_fz : (Rv.fz d).out δ = some (.fz d) := (rfl)
@[simp] theorem out_ow {c : Con} : (Rv.ow c).out δ = some (.ow c) := (rfl)
/-! ints -/
@[simp] theorem kAdd_i : kAdd δ (.fz (.int i)) (.fz (.int j)) = ret (.fz (.int (i + j))) := (rfl)
@[simp] theorem kSub_i : kSub δ (.fz (.int i)) (.fz (.int j)) = ret (.fz (.int (i - j))) := (rfl)
theorem kMul_i' : kMul δ (.fz (.int i)) (.fz (.int j)) = if mulOk i j then ret (.fz (.int (i * j))) else fail := rfl
theorem mulOk_r (h : -(2 ^ 64) < j ∧ j < 2 ^ 64) : mulOk i j = true := by
  unfold mulOk
  simp only [Bool.or_eq_true, decide_eq_true_eq]
  exact .inl (.inr h)
theorem mulOk_l (h : -(2 ^ 64) < i ∧ i < 2 ^ 64) : mulOk i j = true := by
  unfold mulOk
  simp only [Bool.or_eq_true, decide_eq_true_eq]
  exact .inl (.inl h)
@[simp] theorem kMul_i (h : mulOk i j = true) : kMul δ (.fz (.int i)) (.fz (.int j)) = ret (.fz (.int (i * j))) := by rw [kMul_i', if_pos h]
@[simp] theorem kMod_i (h : 0 < j) : kMod δ (.fz (.int i)) (.fz (.int j)) = ret (.fz (.int (i % j))) := by
  show (if 0 < j then riv (i % j) else fail) = _
  rw [if_pos h]; rfl
@[simp] theorem kDiv_i (h : divOk j = true) : kDiv δ (.fz (.int i)) (.fz (.int j)) = ret (.fz (.int (i / j))) := by
  show (if divOk j then riv (i / j) else fail) = _
  rw [if_pos h]; rfl
@[simp] theorem kPow_i (h : 0 ≤ j ∧ j ≤ 1000000 ∧ i.natAbs < 2 ^ 64) : kPow δ (.fz (.int i)) (.fz (.int j)) = ret (.fz (.int (i ^ j.toNat))) := by
  show (if 0 ≤ j ∧ j ≤ 1000000 ∧ i.natAbs < 2 ^ 64 then riv (i ^ j.toNat) else fail) = _
  rw [if_pos h]; rfl
@[simp] theorem kNeg_i : kNeg δ (.fz (.int i)) = ret (.fz (.int (-i))) := (rfl)
@[simp] theorem kLt_i : kLt δ (.fz (.int i)) (.fz (.int j)) = ret (.fz (.bl (decide (i < j)))) := (rfl)
@[simp] theorem kLe_i : kLe δ (.fz (.int i)) (.fz (.int j)) = ret (.fz (.bl (decide (i ≤ j)))) := (rfl)
@[simp] theorem kGt_i : kGt δ (.fz (.int i)) (.fz (.int j)) = ret (.fz (.bl (decide (j < i)))) := (rfl)
@[simp] theorem kGe_i : kGe δ (.fz (.int i)) (.fz (.int j)) = ret (.fz (.bl (decide (j ≤ i)))) := (rfl)
@[simp] theorem kEq_i : kEq' false δ (.fz (.int i)) (.fz (.int j)) = ret (.fz (.bl (decide (i = j)))) := by
  show rbv (xor false (decide (i = j))) = _
  rw [Bool.false_xor]; rfl
@[simp] theorem kNe_i : kEq' true δ (.fz (.int i)) (.fz (.int j)) = ret (.fz (.bl (!decide (i = j)))) := by
  show rbv (xor true (decide (i = j))) = _
  rw [Bool.true_xor]; rfl
@[simp] theorem kEq_s : kEq' false δ (.fz (.str s)) (.fz (.str t)) = ret (.fz (.bl (decide (s = t)))) := by
  show rbv (xor false (decide (s = t))) = _
  rw [Bool.false_xor]; rfl
@[simp] theorem kNe_s : kEq' true δ (.fz (.str s)) (.fz (.str t)) = ret (.fz (.bl (!decide (s = t)))) := by
  show rbv (xor true (decide (s = t))) = _
  rw [Bool.true_xor]; rfl
@[simp] theorem kLt_s : kLt δ (.fz (.str s)) (.fz (.str t)) = ret (.fz (.bl (decide (s < t)))) := (rfl)
@[simp] theorem kLe_s : kLe δ (.fz (.str s)) (.fz (.str t)) = ret (.fz (.bl (!decide (t < s)))) := (rfl)
@[simp] theorem kGt_s : kGt δ (.fz (.str s)) (.fz (.str t)) = ret (.fz (.bl (decide (t < s)))) := (rfl)
@[simp] theorem kGe_s : kGe δ (.fz (.str s)) (.fz (.str t)) = ret (.fz (.bl (!decide (s < t)))) := (rfl)
@[simp] theorem kAdd_s (h : s.length + t.length ≤ LIM) : kAdd δ (.fz (.str s)) (.fz (.str t)) = ret (.fz (.str (s ++ t))) := by
  show (if s.length + t.length ≤ LIM then rsv (s ++ t) else fail) = _
  rw [if_pos h]; rfl
@[simp] theorem kInS_1 {c : Nat} : kIn false δ (.fz (.str [c])) (.fz (.str t)) = kInS false δ (.fz (.str [c])) (.fz (.str t)) := (rfl)
/-! truth -/
@[simp] theorem tru_b : (Rv.fz (.bl b)).tru δ st = some b := (rfl)
@[simp] theorem tru_i : (Rv.fz (.int i)).tru δ st = some (i != 0) := (rfl)
@[simp] theorem tru_n : (Rv.fz .non).tru δ st = some false := (rfl)
@[simp] theorem gTru_ap {ga : DEnv → M Rv} (h : ga δ = ret (.fz (.bl b))) : gTru ga δ = ret b := by
  unfold gTru; rw [h]; rfl
/-! indexing -/
theorem atI_nat {l : List α} {k : Nat} : atI l (k : Int) = l[k]? := by
  unfold atI ixN
  rw [if_pos (by omega)]
  by_cases h : (k : Int) < l.length
  · rw [if_pos h]; simp
  · rw [if_neg h, List.getElem?_eq_none (by omega)]; rfl
@[simp] theorem kIx_s (h : s.length ≤ LIM) : kIx δ (.fz (.str s)) (.fz (.int i)) = opt (atI s i) fun c => ret (.fz (.str [c])) := by
  show (if s.length ≤ LIM then opt (atI s i) fun c => rsv [c] else fail) = _
  rw [if_pos h]; rfl
@[simp] theorem kIx_l : kIx δ (.fz (.lst ds)) (.fz (.int i)) = opt (atI ds i) fun d => ret (.fz d) := (rfl)
@[simp] theorem kIx_t : kIx δ (.fz (.tup ds)) (.fz (.int i)) = opt (atI ds i) fun d => ret (.fz d) := (rfl)
@[simp] theorem kIx_r : kIx δ (.fz (.rol ds)) (.fz (.int i)) = opt (atI ds i) fun d => ret (.fz d) := (rfl)
theorem kIx_c (h : cellAt st n = some (.lst ds)) : kIx δ (.fz (.loc n)) (.fz (.int i)) st = opt (atI ds i) (fun d => ret (.fz d)) st := by
  show kIxQ δ (.fz (.loc n)) (.fz (.int i)) st = _
  have e : Rv.asQ δ st (.fz (.loc n)) = some ds := by
    unfold Rv.asQ Rv.asL Rv.con
    dsimp only
    rw [h]
  unfold kIxQ
  rw [e]; rfl
end
end DL

/-! DM2: what a reading must meet, step by step. -/
namespace DL
open PySem PySem.Spec PyProof.Rows L2 TL
set_option autoImplicit false
/-- what follows, kept from being looked into -/
class KQ (τ : Type) where
  q : τ
def hold {τ : Type} [q : KQ τ] : τ := q.q
@[simp ↓] theorem hold_1 {α β : Type} {f : α → β} {a : α} : hold (q := ⟨f⟩) a = f a := (rfl)
@[simp ↓] theorem hold_2 {α β γ : Type} {f : α → β → γ} {a : α} {b : β} : hold (q := ⟨f⟩) a b = f a b := (rfl)
def wp {α : Type} (o : Option (Res α × Sto)) (Q : α → Sto → Prop) (X : Exn → Sto → Prop) : Prop := match o with
  | some (.ok a, st) => Q a st
  | some (.ex x, st) => X x st
  | none => False
def wpS (o : Option (Fl × Sto)) (Q : Fl → Sto → Prop) : Prop := match o with
  | some (f, st) => Q f st
  | none => False
/-- a choice, a demand -/
def iteK (c : Bool) (A B : Unit → Prop) : Prop := if c then A () else B ()
def guardK (p : Prop) (A : Unit → Prop) : Prop := p ∧ A ()
/-- go on at a settled thing -/
def goK {α : Type} (a : α) (Q : α → Prop) : Prop := Q a
@[simp] theorem goK_eq {α : Type} {a : α} {Q : α → Prop} : goK a Q = Q a := (rfl)
theorem guard_i {p : Prop} {A : Unit → Prop} (h : p) (k : A ()) : guardK p A := ⟨h, k⟩
theorem ite_i {c : Bool} {A B : Unit → Prop} (h : c = true → A ()) (k : c = false → B ()) : iteK c A B := by
  unfold iteK
  cases c
  · exact k rfl
  · exact h rfl
@[simp ↓] theorem iteK_t {A B : Unit → Prop} : iteK true A B = A () := (rfl)
@[simp ↓] theorem iteK_f {A B : Unit → Prop} : iteK false A B = B () := (rfl)
@[simp ↓] theorem guardK_t {A : Unit → Prop} : guardK True A = A () := propext ⟨fun h => h.2, fun h => ⟨trivial, h⟩⟩
/-- what follows -/
def seqK (b : GS) (Q : Fl → Sto → Prop) : Fl → Sto → Prop
  | .nx δ, st => wpS (b δ st) Q
  | f, st => Q f st
/-- a body's end -/
def endK (Q : Rv → Sto → Prop) (X : Exn → Sto → Prop) : Fl → Sto → Prop
  | .nx _, st => Q (.fz .non) st
  | .rt r, st => Q r st
  | .ex x _, st => X x st
  | _, _ => False
abbrev noX : Exn → Sto → Prop := fun _ _ => False
def optK {α : Type} (o : Option α) (Q : α → Prop) : Prop := match o with
  | some a => Q a
  | none => False
theorem wp_cg {α : Type} {o : Option (Res α × Sto)} {Q Q' : α → Sto → Prop} {X : Exn → Sto → Prop} (h : ∀ a st, Q a st = Q' a st) : wp o Q X = wp o Q' X := by
  obtain rfl : Q = Q' := funext fun a => funext fun st => h a st
  rfl
theorem optK_cg {α : Type} {o : Option α} {Q Q' : α → Prop} (h : ∀ a, Q a = Q' a) : optK o Q = optK o Q' := by
  obtain rfl : Q = Q' := funext h
  rfl
theorem wp_of {α : Type} {o : Option (Res α × Sto)} {Q : α → Sto → Prop} (h : wp o Q noX) : ∃ a st, o = some (.ok a, st) ∧ Q a st := by
  unfold wp at h
  split at h
  · exact ⟨_, _, rfl, h⟩
  · exact h.elim
  · exact h.elim
theorem wp_eq {α : Type} {o : Option (Res α × Sto)} {Q : α → Sto → Prop} {X : Exn → Sto → Prop} {a : α} {st : Sto} (e : o = some (.ok a, st)) (h : Q a st) : wp o Q X := by rw [e]; exact h
theorem wpS_of {o : Option (Fl × Sto)} {Q : Fl → Sto → Prop} (h : wpS o Q) : ∃ f st, o = some (f, st) ∧ Q f st := by
  unfold wpS at h
  split at h
  · exact ⟨_, _, rfl, h⟩
  · exact h.elim
theorem wp_mono {α : Type} {o : Option (Res α × Sto)} {Q R : α → Sto → Prop} {X Y : Exn → Sto → Prop} (h : wp o Q X) (k : ∀ a st, Q a st → R a st) (l : ∀ x st, X x st → Y x st) : wp o R Y := by
  unfold wp at h ⊢
  split at h
  · exact k _ _ h
  · exact l _ _ h
  · exact h.elim
theorem wp_mono0 {α : Type} {o : Option (Res α × Sto)} {Q R : α → Sto → Prop} {Y : Exn → Sto → Prop} (h : wp o Q noX) (k : ∀ a st, Q a st → R a st) : wp o R Y := wp_mono h k fun _ _ z => z.elim
theorem wpS_mono {o : Option (Fl × Sto)} {Q R : Fl → Sto → Prop} (h : wpS o Q) (k : ∀ f st, Q f st → R f st) : wpS o R := by
  obtain ⟨a, st, e, q⟩ := wpS_of h
  rw [e]; exact k a st q
section
variable {α β : Type} {δ δ' : DEnv} {st st' : Sto} {i j : Int} {b c : Bool} {s t : List Nat} {x y r : Rv} {ds es : List D} {d e : D} {n m : Nat} {rs : List Rv} {X : Exn → Sto → Prop}
@[simp ↓] theorem optK_s {a : α} {Q : α → Prop} : optK (some a) Q = Q a := (rfl)
@[simp ↓] theorem optK_n {Q : α → Prop} : optK none Q = False := (rfl)
@[simp ↓] theorem wp_ret {a : α} {Q : α → Sto → Prop} : wp (ret a st) Q X = Q a st := (rfl)
@[simp ↓] theorem wp_some {a : α} {Q : α → Sto → Prop} : wp (some (.ok a, st)) Q X = Q a st := (rfl)
@[simp ↓] theorem wp_fail {Q : α → Sto → Prop} : wp ((fail : M α) st) Q X = False := (rfl)
theorem wp_bnd0 {mm : M α} {k : α → M β} {Q : β → Sto → Prop} : wp (bnd mm k st) Q X = wp (mm st) (fun a st' => wp (k a st') Q X) X := by
  unfold bnd wp
  cases mm st with
  | none => rfl
  | some o =>
    obtain ⟨o, st'⟩ := o
    cases o <;> rfl
theorem wp_opt0 {o : Option α} {f : α → M β} {Q : β → Sto → Prop} : wp (opt o f st) Q X = optK o fun a => wp (f a st) Q X := by
  cases o <;> rfl
@[simp ↓] theorem wp_bnd {mm : M α} {k : α → M β} {Q : β → Sto → Prop} : wp (bnd mm k st) Q X = wp (mm st) (hold (q := ⟨fun a st' => wp (k a st') Q X⟩)) X := by
  unfold bnd wp
  cases mm st with
  | none => rfl
  | some o =>
    obtain ⟨o, st'⟩ := o
    cases o <;> rfl
@[simp ↓] theorem wp_opt {o : Option α} {f : α → M β} {Q : β → Sto → Prop} : wp (opt o f st) Q X = optK o (hold (q := ⟨fun a => wp (f a st) Q X⟩)) := by
  cases o <;> rfl
@[simp ↓] theorem wp_ite {p : Prop} [Decidable p] {f g : M α} {Q : α → Sto → Prop} : wp ((if p then f else g) st) Q X = if p then wp (f st) Q X else wp (g st) Q X := by
  split <;> rfl
@[simp ↓] theorem wp_ite' {p : Prop} [Decidable p] {f g : Option (Res α × Sto)} {Q : α → Sto → Prop} : wp (if p then f else g) Q X = if p then wp f Q X else wp g Q X := by
  split <;> rfl
@[simp ↓] theorem wp_riv {Q : Rv → Sto → Prop} : wp (riv i st) Q X = Q (.fz (.int i)) st := (rfl)
@[simp ↓] theorem wp_rbv {Q : Rv → Sto → Prop} : wp (rbv b st) Q X = Q (.fz (.bl b)) st := (rfl)
@[simp ↓] theorem wp_rsv {Q : Rv → Sto → Prop} : wp (rsv s st) Q X = Q (.fz (.str s)) st := (rfl)
/-! expressions -/
def gVarO : Nat → Nat → DEnv → M Rv
  | _, _, [] => fail
  | _, 0, none :: _ => fail
  | _, 0, some (.fz d) :: _ => ret (.fz d)
  | n, 0, some (.ow _) :: _ => ret (.vw n)
  | n, m + 1, _ :: l => gVarO n m l
theorem gVarO_eq : ∀ {n m : Nat} {δ : DEnv}, gVarO n m δ = match δ[m]? with
    | some (some (.fz d)) => ret (.fz d)
    | some (some (.ow _)) => ret (.vw n)
    | _ => fail
  | _, m, [] => by rw [gVarO]; simp
  | _, 0, none :: _ => rfl
  | _, 0, some (.fz d) :: _ => rfl
  | n, 0, some (.ow _) :: _ => rfl
  | n, m + 1, _ :: l => by rw [gVarO, gVarO_eq, List.getElem?_cons_succ]
@[simp ↓] theorem wp_var {Q : Rv → Sto → Prop} : wp (gVar n δ st) Q X = wp (gVarO n n δ st) Q X := by
  rw [gVarO_eq]
  rfl
@[simp ↓] theorem wp_varO_0f {l : DEnv} {Q : Rv → Sto → Prop} : wp (gVarO n 0 (some (.fz d) :: l) st) Q X = Q (.fz d) st := (rfl)
@[simp ↓] theorem wp_varO_0o {l : DEnv} {c : Con} {Q : Rv → Sto → Prop} : wp (gVarO n 0 (some (.ow c) :: l) st) Q X = Q (.vw n) st := (rfl)
@[simp ↓] theorem wp_varO_s {a : Option SV} {l : DEnv} {Q : Rv → Sto → Prop} : wp (gVarO n (m + 1) (a :: l) st) Q X = wp (gVarO n m l st) Q X := by rw [gVarO]
@[simp ↓] theorem wp_C {Q : Rv → Sto → Prop} : wp (gC d δ st) Q X = Q (.fz d) st := (rfl)
variable {ga gb gc : DEnv → M Rv} {gs : DEnv → M (List Rv)} {gt gt' : DEnv → M Bool} {k k' : K2} {Q : Rv → Sto → Prop} {QB : Bool → Sto → Prop} {QL : List Rv → Sto → Prop}
@[simp ↓] theorem wp_bin : wp (gBin k ga gb δ st) Q X = wp (ga δ st) (hold (q := ⟨fun x st1 => wp (gb δ st1) (hold (q := ⟨fun y st2 => wp (k δ x y st2) Q X⟩)) X⟩)) X := by
  unfold gBin
  rw [wp_bnd0]
  refine wp_cg fun x st1 => ?_
  try simp only [hold_1, hold_2]
  rw [wp_bnd0]
  try rfl
@[simp ↓] theorem wp_un {k : K1} : wp (gUn k ga δ st) Q X = wp (ga δ st) (hold (q := ⟨fun x st1 => wp (k δ x st1) Q X⟩)) X := by
  unfold gUn
  rw [wp_bnd0]
  try rfl
theorem wp_frz0 : wp (gFrz ga δ st) Q X = wp (ga δ st) (fun x st1 => Q x.frz st1) X := by
  unfold gFrz
  rw [wp_bnd0]; rfl
@[simp ↓] theorem wp_frz : wp (gFrz ga δ st) Q X = wp (ga δ st) (hold (q := ⟨fun x st1 => Q x.frz st1⟩)) X := by
  unfold gFrz
  rw [wp_bnd0]; rfl
@[simp ↓] theorem wp_nil : wp (gNil δ st) QL X = QL [] st := (rfl)
@[simp ↓] theorem wp_cons : wp (gCons ga gs δ st) QL X = wp (ga δ st) (hold (q := ⟨fun x st1 => wp (gs δ st1) (hold (q := ⟨fun xs st2 => QL (x.frz :: xs) st2⟩)) X⟩)) X := by
  unfold gCons
  rw [wp_bnd0]
  refine wp_cg fun x st1 => ?_
  try simp only [hold_1, hold_2]
  rw [wp_bnd0]; rfl
@[simp ↓] theorem wp_fn {k : KN} : wp (gFn k gs δ st) Q X = wp (gs δ st) (hold (q := ⟨fun xs st1 => wp (k δ xs st1) Q X⟩)) X := by
  unfold gFn
  rw [wp_bnd0]
  try rfl
@[simp ↓] theorem wp_call {f : List D → M Rv} : wp (gCall n f gs δ st) Q X = wp (gs δ st) (hold (q := ⟨fun xs st1 => optK (allD xs) (hold (q := ⟨fun ds => guardK (ds.length = n) (hold (q := ⟨fun _ => wp (f ds st1) Q X⟩))⟩))⟩)) X := by
  unfold gCall
  rw [wp_bnd0]
  refine wp_cg fun xs st1 => ?_
  try simp only [hold_1, hold_2]
  rw [wp_opt0]
  refine optK_cg fun ds => ?_
  try simp only [hold_1, hold_2]
  unfold guardK
  split
  · rename_i h; exact propext ⟨fun z => ⟨h, z⟩, fun z => z.2⟩
  · rename_i h; exact propext ⟨fun z => False.elim z, fun z => absurd z.1 h⟩
@[simp] theorem allD_nil : allD [] = some [] := (rfl)
@[simp] theorem allD_cons : allD (.fz d :: rs) = (allD rs).map (d :: ·) := (rfl)
@[simp ↓] theorem wp_tup : wp (gTup gs δ st) Q X = wp (gs δ st) (hold (q := ⟨fun xs st1 => optK (allD xs) (hold (q := ⟨fun ds => guardK (ds.length ≤ LIM) (hold (q := ⟨fun _ => Q (.fz (.tup ds)) st1⟩))⟩))⟩)) X := by
  unfold gTup
  rw [wp_bnd0]
  refine wp_cg fun xs st1 => ?_
  try simp only [hold_1, hold_2]
  cases allD xs with
  | none => rfl
  | some ds =>
    show wp ((if ds.length ≤ LIM then ret (Rv.fz (.tup ds)) else fail) st1) Q X = guardK _ _
    unfold guardK
    split
    · rename_i h; exact propext ⟨fun z => ⟨h, z⟩, fun z => z.2⟩
    · rename_i h; exact propext ⟨fun z => False.elim z, fun z => absurd z.1 h⟩
@[simp ↓] theorem wp_lst : wp (gLst gs δ st) Q X = wp (gs δ st) (hold (q := ⟨fun xs st1 => optK (allD xs) (hold (q := ⟨fun ds => guardK (ds.length ≤ LIM) (hold (q := ⟨fun _ => Q (.ow (.lst ds)) st1⟩))⟩))⟩)) X := by
  unfold gLst
  rw [wp_bnd0]
  refine wp_cg fun xs st1 => ?_
  try simp only [hold_1, hold_2]
  cases allD xs with
  | none => rfl
  | some ds =>
    show wp ((if ds.length ≤ LIM then ret (Rv.ow (.lst ds)) else fail) st1) Q X = guardK _ _
    unfold guardK
    split
    · rename_i h; exact propext ⟨fun z => ⟨h, z⟩, fun z => z.2⟩
    · rename_i h; exact propext ⟨fun z => False.elim z, fun z => absurd z.1 h⟩
@[simp ↓] theorem wp_if : wp (gIf gt ga gb δ st) Q X = wp (gt δ st) (hold (q := ⟨fun c st1 => iteK c (hold (q := ⟨fun _ => wp (ga δ st1) Q X⟩)) (hold (q := ⟨fun _ => wp (gb δ st1) Q X⟩))⟩)) X := by
  unfold gIf
  rw [wp_bnd0]
  refine wp_cg fun c st1 => ?_
  try simp only [hold_1, hold_2]
  cases c <;> rfl
@[simp ↓] theorem wp_andV : wp (gAndV ga gb δ st) Q X = wp (ga δ st) (hold (q := ⟨fun x st1 => optK x.asB (hold (q := ⟨fun c => iteK c (hold (q := ⟨fun _ => wp (gb δ st1) Q X⟩)) (hold (q := ⟨fun _ => Q (.fz (.bl false)) st1⟩))⟩))⟩)) X := by
  unfold gAndV
  rw [wp_bnd0]
  refine wp_cg fun x st1 => ?_
  try simp only [hold_1, hold_2]
  rw [wp_opt0]
  refine optK_cg fun c => ?_
  try simp only [hold_1, hold_2]
  cases c <;> rfl
@[simp ↓] theorem wp_orV : wp (gOrV ga gb δ st) Q X = wp (ga δ st) (hold (q := ⟨fun x st1 => optK x.asB (hold (q := ⟨fun c => iteK c (hold (q := ⟨fun _ => Q (.fz (.bl true)) st1⟩)) (hold (q := ⟨fun _ => wp (gb δ st1) Q X⟩))⟩))⟩)) X := by
  unfold gOrV
  rw [wp_bnd0]
  refine wp_cg fun x st1 => ?_
  try simp only [hold_1, hold_2]
  rw [wp_opt0]
  refine optK_cg fun c => ?_
  try simp only [hold_1, hold_2]
  cases c <;> rfl
@[simp ↓] theorem wp_notV : wp (gNotV ga δ st) Q X = wp (ga δ st) (hold (q := ⟨fun x st1 => optK x.asB (hold (q := ⟨fun c => Q (.fz (.bl (!c))) st1⟩))⟩)) X := by
  unfold gNotV
  rw [wp_bnd0]
  refine wp_cg fun x st1 => ?_
  try simp only [hold_1, hold_2]
  rw [wp_opt0]
  rfl
@[simp ↓] theorem wp_chain : wp (gChain k k' ga gb gc δ st) Q X = wp (ga δ st) (hold (q := ⟨fun x st1 => wp (gb δ st1) (hold (q := ⟨fun y st2 => wp (k δ x y st2) (hold (q := ⟨fun z st3 => optK z.asB (hold (q := ⟨fun t => iteK t (hold (q := ⟨fun _ => wp (gc δ st3) (hold (q := ⟨fun w st4 => wp (k' δ y w st4) Q X⟩)) X⟩)) (hold (q := ⟨fun _ => Q (.fz (.bl false)) st3⟩))⟩))⟩)) X⟩)) X⟩)) X := by
  unfold gChain
  rw [wp_bnd0]
  refine wp_cg fun x st1 => ?_
  try simp only [hold_1, hold_2]
  rw [wp_bnd0]
  refine wp_cg fun y st2 => ?_
  try simp only [hold_1, hold_2]
  rw [wp_bnd0]
  refine wp_cg fun z st3 => ?_
  try simp only [hold_1, hold_2]
  rw [wp_opt0]
  refine optK_cg fun t => ?_
  try simp only [hold_1, hold_2]
  cases t
  · rfl
  · simp only [if_true, wp_bnd0, iteK_t]; rfl
/-! tests -/
@[simp ↓] theorem wp_tb : wp (gTB ga δ st) QB X = wp (ga δ st) (hold (q := ⟨fun x st1 => optK x.asB (hold (q := ⟨fun c => QB c st1⟩))⟩)) X := by
  unfold gTB
  rw [wp_bnd0]
  refine wp_cg fun x st1 => ?_
  try simp only [hold_1, hold_2]
  rw [wp_opt0]; rfl
@[simp ↓] theorem wp_tru : wp (gTru ga δ st) QB X = wp (ga δ st) (hold (q := ⟨fun x st1 => optK (x.tru δ st1) (hold (q := ⟨fun c => QB c st1⟩))⟩)) X := by
  unfold gTru
  rw [wp_bnd0]
  refine wp_cg fun x st1 => ?_
  try simp only [hold_1, hold_2]
  cases x.tru δ st1 <;> rfl
@[simp ↓] theorem wp_andT : wp (gAndT gt gt' δ st) QB X = wp (gt δ st) (hold (q := ⟨fun c st1 => iteK c (hold (q := ⟨fun _ => wp (gt' δ st1) QB X⟩)) (hold (q := ⟨fun _ => QB false st1⟩))⟩)) X := by
  unfold gAndT
  rw [wp_bnd0]
  refine wp_cg fun c st1 => ?_
  try simp only [hold_1, hold_2]
  cases c <;> rfl
@[simp ↓] theorem wp_orT : wp (gOrT gt gt' δ st) QB X = wp (gt δ st) (hold (q := ⟨fun c st1 => iteK c (hold (q := ⟨fun _ => QB true st1⟩)) (hold (q := ⟨fun _ => wp (gt' δ st1) QB X⟩))⟩)) X := by
  unfold gOrT
  rw [wp_bnd0]
  refine wp_cg fun c st1 => ?_
  try simp only [hold_1, hold_2]
  cases c <;> rfl
@[simp ↓] theorem wp_notT : wp (gNotT gt δ st) QB X = wp (gt δ st) (hold (q := ⟨fun c st1 => QB (!c) st1⟩)) X := by
  unfold gNotT
  rw [wp_bnd0]; rfl
@[simp ↓] theorem wp_yes : wp (gYes δ st) QB X = QB true st := (rfl)
/-! operators on cells and own lists -/
@[simp ↓] theorem wp_kIx_c : wp (kIx δ (.fz (.loc n)) (.fz (.int i)) st) Q X = optK (Rv.asQ δ st (.fz (.loc n))) (hold (q := ⟨fun ds => optK (atI ds i) (hold (q := ⟨fun d => Q (.fz d) st⟩))⟩)) := by
  show wp (kIxQ δ (.fz (.loc n)) (.fz (.int i)) st) Q X = _
  unfold kIxQ
  rw [wp_opt0]
  refine optK_cg fun ds => ?_
  try simp only [hold_1, hold_2]
  rw [wp_opt0]
  show wp (opt (atI ds i) _ st) Q X = _
  rw [wp_opt0]; rfl
@[simp ↓] theorem wp_kIx_v : wp (kIx δ (.vw n) (.fz (.int i)) st) Q X = optK (Rv.asQ δ st (.vw n)) (hold (q := ⟨fun ds => optK (atI ds i) (hold (q := ⟨fun d => Q (.fz d) st⟩))⟩)) := by
  show wp (kIxQ δ (.vw n) (.fz (.int i)) st) Q X = _
  unfold kIxQ
  rw [wp_opt0]
  refine optK_cg fun ds => ?_
  try simp only [hold_1, hold_2]
  rw [wp_opt0]
  show wp (opt (atI ds i) _ st) Q X = _
  rw [wp_opt0]; rfl
@[simp] theorem asQ_c0 {c : Option Con} {l : Sto} (h : c = some (.lst ds)) : Rv.asQ δ (c :: l) (.fz (.loc 0)) = some ds := by subst h; rfl
@[simp] theorem asQ_c {l : Sto} : Rv.asQ δ (some (.lst ds) :: l) (.fz (.loc 0)) = some ds := (rfl)
@[simp] theorem asQ_l : Rv.asQ δ st (.fz (.lst ds)) = some ds := (rfl)
@[simp] theorem asQ_t : Rv.asQ δ st (.fz (.tup ds)) = some ds := (rfl)
@[simp] theorem asQ_r : Rv.asQ δ st (.fz (.rol ds)) = some ds := (rfl)
@[simp] theorem asQ_o : Rv.asQ δ st (.ow (.lst ds)) = some ds := (rfl)
@[simp] theorem asQ_vw : Rv.asQ δ st (.vw n) = ownL δ n := by
  unfold Rv.asQ Rv.asL Rv.con ownL
  rfl
@[simp] theorem ownL_0o {l : DEnv} : ownL (some (.ow (.lst ds)) :: l) 0 = some ds := (rfl)
@[simp] theorem ownL_s {a : Option SV} {l : DEnv} : ownL (a :: l) (n + 1) = ownL l n := by
  unfold ownL ownAt
  rw [List.getElem?_cons_succ]
@[simp] theorem asR_o : Rv.asR δ st (.ow (.lst ds)) = some ds := (rfl)
@[simp] theorem asR_l : Rv.asR δ st (.fz (.lst ds)) = some ds := (rfl)
@[simp] theorem asR_r : Rv.asR δ st (.fz (.rol ds)) = some ds := (rfl)
@[simp] theorem asR_v' : Rv.asR δ st (.vw n) = ownL δ n := by
  unfold Rv.asR Rv.asL Rv.con ownL
  rfl
/-! functions -/
@[simp ↓] theorem wp_len_s (h : s.length ≤ LIM) : wp (kLen δ [.fz (.str s)] st) Q X = Q (.fz (.int s.length)) st := by
  show wp ((if s.length ≤ LIM then riv s.length else fail) st) Q X = _
  rw [if_pos h]; rfl
@[simp ↓] theorem wp_len_l : wp (kLen δ [.fz (.lst ds)] st) Q X = Q (.fz (.int ds.length)) st := (rfl)
@[simp ↓] theorem wp_len_r : wp (kLen δ [.fz (.rol ds)] st) Q X = Q (.fz (.int ds.length)) st := (rfl)
@[simp ↓] theorem wp_len_t : wp (kLen δ [.fz (.tup ds)] st) Q X = Q (.fz (.int ds.length)) st := (rfl)
@[simp ↓] theorem wp_len_v : wp (kLen δ [.vw n] st) Q X = optK (ownL δ n) (hold (q := ⟨fun ds => Q (.fz (.int ds.length)) st⟩)) := by
  show wp (opt (Rv.asQ δ st (.vw n)) (fun ds => riv ds.length) st) Q X = _
  rw [wp_opt0, asQ_vw]; rfl
@[simp ↓] theorem wp_len_c : wp (kLen δ [.fz (.loc n)] st) Q X = optK (Rv.asQ δ st (.fz (.loc n))) (hold (q := ⟨fun ds => Q (.fz (.int ds.length)) st⟩)) := by
  show wp (opt (Rv.asQ δ st (.fz (.loc n))) (fun ds => riv ds.length) st) Q X = _
  rw [wp_opt0]; rfl
@[simp ↓] theorem wp_list : wp (kList δ [x] st) Q X = optK (x.asQ δ st) (hold (q := ⟨fun ds => Q (.ow (.lst ds)) st⟩)) := by
  show wp (opt (x.asQ δ st) (fun ds => ret (.ow (.lst ds))) st) Q X = _
  rw [wp_opt0]; rfl
@[simp ↓] theorem wp_all : wp (kAll δ [x] st) Q X = optK (x.asR δ st) (hold (q := ⟨fun ds => optK (bls? ds) (hold (q := ⟨fun bs => Q (.fz (.bl (bs.all id))) st⟩))⟩)) := by
  show wp (opt (x.asR δ st) (fun ds => opt (bls? ds) fun bs => rbv (bs.all id)) st) Q X = _
  rw [wp_opt0]
  refine optK_cg fun ds => ?_
  try simp only [hold_1, hold_2]
  rw [wp_opt0]; rfl
@[simp ↓] theorem wp_any : wp (kAny δ [x] st) Q X = optK (x.asR δ st) (hold (q := ⟨fun ds => optK (bls? ds) (hold (q := ⟨fun bs => Q (.fz (.bl (bs.any id))) st⟩))⟩)) := by
  show wp (opt (x.asR δ st) (fun ds => opt (bls? ds) fun bs => rbv (bs.any id)) st) Q X = _
  rw [wp_opt0]
  refine optK_cg fun ds => ?_
  try simp only [hold_1, hold_2]
  rw [wp_opt0]; rfl
@[simp ↓] theorem wp_sum : wp (kSum δ [x] st) Q X = optK (x.asR δ st) (hold (q := ⟨fun ds => optK (ints? ds) (hold (q := ⟨fun bs => Q (.fz (.int bs.sum)) st⟩))⟩)) := by
  show wp (opt (x.asR δ st) (fun ds => opt (ints? ds) fun bs => riv bs.sum) st) Q X = _
  rw [wp_opt0]
  refine optK_cg fun ds => ?_
  try simp only [hold_1, hold_2]
  rw [wp_opt0]; rfl
/-! statements -/
variable {a b : GS} {R : Fl → Sto → Prop}
@[simp ↓] theorem wpS_next : wpS (sNext δ st) R = R (.nx δ) st := (rfl)
@[simp ↓] theorem wpS_seq : wpS (sSeq a b δ st) R = wpS (a δ st) (hold (q := ⟨seqK b R⟩)) := by
  unfold sSeq wpS
  cases a δ st with
  | none => rfl
  | some o =>
    obtain ⟨f, st'⟩ := o
    cases f <;> rfl
@[simp ↓] theorem seqK_nx : seqK b R (.nx δ) st = wpS (b δ st) R := (rfl)
@[simp ↓] theorem seqK_rt : seqK b R (.rt r) st = R (.rt r) st := (rfl)
@[simp ↓] theorem seqK_bk : seqK b R (.bk δ) st = R (.bk δ) st := (rfl)
@[simp ↓] theorem seqK_ct : seqK b R (.ct δ) st = R (.ct δ) st := (rfl)
@[simp ↓] theorem endK_nx : endK Q X (.nx δ) st = Q (.fz .non) st := (rfl)
@[simp ↓] theorem endK_rt : endK Q X (.rt r) st = Q r st := (rfl)
theorem wpS_bnd0 {mm : M α} {kk : α → Sto → Option (Fl × Sto)} : wpS (sBnd mm δ kk st) R = wp (mm st) (fun a st' => wpS (kk a st') R) (fun x st' => R (.ex x δ) st') := by
  unfold sBnd wp
  cases mm st with
  | none => rfl
  | some o =>
    obtain ⟨o, st'⟩ := o
    cases o <;> rfl
@[simp ↓] theorem wpS_bnd {mm : M α} {kk : α → Sto → Option (Fl × Sto)} : wpS (sBnd mm δ kk st) R = wp (mm st) (hold (q := ⟨fun a st' => wpS (kk a st') R⟩)) (hold (q := ⟨fun x st' => R (.ex x δ) st'⟩)) := by
  unfold sBnd wp
  cases mm st with
  | none => rfl
  | some o =>
    obtain ⟨o, st'⟩ := o
    cases o <;> rfl
@[simp ↓] theorem wpS_some {f : Fl} : wpS (some (f, st)) R = R f st := (rfl)
@[simp ↓] theorem wpS_none : wpS none R = False := (rfl)
@[simp ↓] theorem wpS_ite {p : Prop} [Decidable p] {f g : GS} : wpS ((if p then f else g) δ st) R = if p then wpS (f δ st) R else wpS (g δ st) R := by
  split <;> rfl
@[simp ↓] theorem wpS_if : wpS (sIf gt a b δ st) R = wp (gt δ st) (hold (q := ⟨fun c st1 => iteK c (hold (q := ⟨fun _ => wpS (a δ st1) R⟩)) (hold (q := ⟨fun _ => wpS (b δ st1) R⟩))⟩)) (hold (q := ⟨fun x st1 => R (.ex x δ) st1⟩)) := by
  unfold sIf
  rw [wpS_bnd0]
  refine wp_cg fun c st1 => ?_
  try simp only [hold_1, hold_2]
  cases c <;> rfl
@[simp ↓] theorem wpS_expr : wpS (sExpr ga δ st) R = wp (ga δ st) (hold (q := ⟨fun _ st1 => R (.nx δ) st1⟩)) (hold (q := ⟨fun x st1 => R (.ex x δ) st1⟩)) := by
  unfold sExpr
  rw [wpS_bnd0]; rfl
@[simp ↓] theorem wpS_ret : wpS (sRet ga δ st) R = wp (ga δ st) (hold (q := ⟨fun r st1 => optK (r.out δ) (hold (q := ⟨fun r => R (.rt r) st1⟩))⟩)) (hold (q := ⟨fun x st1 => R (.ex x δ) st1⟩)) := by
  unfold sRet
  rw [wpS_bnd0]
  refine wp_cg fun r st1 => ?_
  try simp only [hold_1, hold_2]
  cases r.out δ <;> rfl
@[simp ↓] theorem wpS_retN : wpS (sRetN δ st) R = R (.rt (.fz .non)) st := (rfl)
@[simp ↓] theorem wpS_bk : wpS ((fun δ st => some (.bk δ, st) : GS) δ st) R = R (.bk δ) st := (rfl)
@[simp ↓] theorem wpS_ct : wpS ((fun δ st => some (.ct δ, st) : GS) δ st) R = R (.ct δ) st := (rfl)
/-- slot i takes a value -/
def setK (i : Nat) (r : Rv) (δ : DEnv) (Q : DEnv → Prop) : Prop := match r with
  | .fz d => Q (δ.set i (some (.fz d)))
  | .ow c => Q (δ.set i (some (.ow c)))
  | .vw _ => False
@[simp ↓] theorem setK_f {Q : DEnv → Prop} : setK n (.fz d) δ Q = goK (δ.set n (some (.fz d))) Q := (rfl)
@[simp ↓] theorem setK_o {c : Con} {Q : DEnv → Prop} : setK n (.ow c) δ Q = goK (δ.set n (some (.ow c))) Q := (rfl)
@[simp ↓] theorem wpS_set : wpS (sSet n ga δ st) R = wp (ga δ st) (hold (q := ⟨fun r st1 => setK n r δ (hold (q := ⟨fun δ' => R (.nx δ') st1⟩))⟩)) (hold (q := ⟨fun x st1 => R (.ex x δ) st1⟩)) := by
  unfold sSet
  rw [wpS_bnd0]
  refine wp_cg fun r st1 => ?_
  try simp only [hold_1, hold_2]
  cases r <;> rfl
def cellK (n : Nat) (r : Rv) (δ : DEnv) (st : Sto) (R : Fl → Sto → Prop) : Prop := match r with
  | .ow c => R (.nx (δ.set n (some (.fz (.loc st.length))))) (st ++ [some c])
  | _ => False
@[simp ↓] theorem cellK_o {c : Con} : cellK n (.ow c) δ st R = goK (δ.set n (some (.fz (.loc st.length)))) (hold (q := ⟨fun δ' => goK (st ++ [some c]) (hold (q := ⟨fun st' => R (.nx δ') st'⟩))⟩)) := (rfl)
@[simp ↓] theorem wpS_cell : wpS (sCell n ga δ st) R = wp (ga δ st) (hold (q := ⟨fun r st1 => cellK n r δ st1 R⟩)) (hold (q := ⟨fun x st1 => R (.ex x δ) st1⟩)) := by
  unfold sCell
  rw [wpS_bnd0]
  refine wp_cg fun r st1 => ?_
  try simp only [hold_1, hold_2]
  cases r <;> rfl
def subAt (st : Sto) (n : Nat) (rk : Rv) (d : D) : Option (List D) := (cellL st n).bind fun ds => rk.asI.bind fun k => setIx ds k d
@[simp] theorem subAt_i {l : Sto} {i : Int} : subAt (some (.lst ds) :: l) 0 (.fz (.int i)) d = setIx ds i d := (rfl)
def subIn (ds : List D) (rk : Rv) (d : D) : Option (List D) := rk.asI.bind fun k => setIx ds k d
@[simp] theorem subIn_i {i : Int} : subIn ds (.fz (.int i)) d = setIx ds i d := (rfl)
def subK (n : Nat) (r rk : Rv) (δ : DEnv) (st : Sto) (R : Fl → Sto → Prop) : Prop := match r with
  | .fz d => optK ((cellL st n).bind fun ds => rk.asI.bind fun k => setIx ds k d) fun ds' => R (.nx δ) (st.set n (some (.lst ds')))
  | _ => False
@[simp ↓] theorem subK_f {rk : Rv} : subK n (.fz d) rk δ st R = optK (subAt st n rk d) (hold (q := ⟨fun ds' => goK (st.set n (some (.lst ds'))) (hold (q := ⟨fun st' => R (.nx δ) st'⟩))⟩)) := (rfl)
@[simp ↓] theorem wpS_subC {gk : DEnv → M Rv} : wpS (sSubC m ga gk δ st) R = optK (locAt δ m) (hold (q := ⟨fun n => wp (ga δ st) (hold (q := ⟨fun r st1 => wp (gk δ st1) (hold (q := ⟨fun rk st2 => subK n r.frz rk δ st2 R⟩)) (hold (q := ⟨fun x st2 => R (.ex x δ) st2⟩))⟩)) (hold (q := ⟨fun x st1 => R (.ex x δ) st1⟩))⟩)) := by
  unfold sSubC
  cases locAt δ m with
  | none => rfl
  | some n =>
    simp only [wpS_bnd0, wp_frz0, optK_s]
    refine wp_cg fun r st1 => ?_
    try simp only [hold_1, hold_2]
    refine wp_cg fun rk st2 => ?_
    try simp only [hold_1, hold_2]
    cases r.frz with
    | fz d =>
      unfold subK
      dsimp only
      cases ((cellL st2 n).bind fun ds => rk.asI.bind fun k => setIx ds k d) <;> rfl
    | ow c => rfl
    | vw j => rfl
def subO (n : Nat) (r rk : Rv) (ds : List D) (δ : DEnv) (st : Sto) (R : Fl → Sto → Prop) : Prop := match r with
  | .fz d => optK (rk.asI.bind fun k => setIx ds k d) fun ds' => R (.nx (δ.set n (some (.ow (.lst ds'))))) st
  | _ => False
@[simp ↓] theorem subO_f {rk : Rv} : subO n (.fz d) rk ds δ st R = optK (subIn ds rk d) (hold (q := ⟨fun ds' => goK (δ.set n (some (.ow (.lst ds')))) (hold (q := ⟨fun δ' => R (.nx δ') st⟩))⟩)) := (rfl)
@[simp ↓] theorem wpS_sub {gk : DEnv → M Rv} : wpS (sSub n ga gk δ st) R = optK (ownL δ n) (hold (q := ⟨fun ds => wp (ga δ st) (hold (q := ⟨fun r st1 => wp (gk δ st1) (hold (q := ⟨fun rk st2 => subO n r.frz rk ds δ st2 R⟩)) (hold (q := ⟨fun x st2 => R (.ex x δ) st2⟩))⟩)) (hold (q := ⟨fun x st1 => R (.ex x δ) st1⟩))⟩)) := by
  unfold sSub
  cases ownL δ n with
  | none => rfl
  | some ds =>
    simp only [wpS_bnd0, wp_frz0, optK_s]
    refine wp_cg fun r st1 => ?_
    try simp only [hold_1, hold_2]
    refine wp_cg fun rk st2 => ?_
    try simp only [hold_1, hold_2]
    cases r.frz with
    | fz d =>
      unfold subO
      dsimp only
      cases (rk.asI.bind fun k => setIx ds k d) <;> rfl
    | ow c => rfl
    | vw j => rfl
@[simp ↓] theorem wpS_own {f : List D → List D → Option (List D)} : wpS (sOwn n gs f δ st) R = optK (ownL δ n) (hold (q := ⟨fun ds => wp (gs δ st) (hold (q := ⟨fun rs st1 => optK ((allD rs).bind (f ds)) (hold (q := ⟨fun ds' => goK (δ.set n (some (.ow (.lst ds')))) (hold (q := ⟨fun δ' => R (.nx δ') st1⟩))⟩))⟩)) (hold (q := ⟨fun x st1 => R (.ex x δ) st1⟩))⟩)) := by
  unfold sOwn
  cases ownL δ n with
  | none => rfl
  | some ds =>
    simp only [wpS_bnd0, optK_s]
    refine wp_cg fun rs st1 => ?_
    try simp only [hold_1, hold_2]
    cases ((allD rs).bind (f ds)) <;> rfl
def augK : Nat → DEnv → (D → Prop) → Prop
  | _, [], _ => False
  | 0, some (.fz d) :: _, Q => Q d
  | 0, _ :: _, _ => False
  | n + 1, _ :: l, Q => augK n l Q
@[simp ↓] theorem augK_0 {l : DEnv} {Q : D → Prop} : augK 0 (some (.fz d) :: l) Q = Q d := (rfl)
@[simp ↓] theorem augK_s {v : Option SV} {l : DEnv} {Q : D → Prop} : augK (n + 1) (v :: l) Q = augK n l Q := by rw [augK]
theorem augK_eq : ∀ {n : Nat} {δ : DEnv} {Q : D → Prop}, augK n δ Q = match δ[n]? with
    | some (some (.fz d)) => Q d
    | _ => False
  | n, [], Q => by rw [augK]; simp
  | 0, some (.fz d) :: _, Q => rfl
  | 0, some (.ow c) :: _, Q => rfl
  | 0, none :: _, Q => rfl
  | n + 1, _ :: l, Q => by rw [augK, augK_eq, List.getElem?_cons_succ]
@[simp ↓] theorem wpS_aug : wpS (sAug n k ga δ st) R = augK n δ (hold (q := ⟨fun d => wp (ga δ st) (hold (q := ⟨fun y st1 => wp (k δ (.fz d) y st1) (hold (q := ⟨fun r st2 => setK n r δ (hold (q := ⟨fun δ' => R (.nx δ') st2⟩))⟩)) (hold (q := ⟨fun x st2 => R (.ex x δ) st2⟩))⟩)) (hold (q := ⟨fun x st1 => R (.ex x δ) st1⟩))⟩)) := by
  rw [augK_eq]
  unfold sAug
  match δ[n]? with
  | some (some (.fz d)) =>
    simp only [wpS_bnd0, wp_bnd0]
    refine wp_cg fun y st1 => ?_
    try simp only [hold_1, hold_2]
    refine wp_cg fun r st2 => ?_
    try simp only [hold_1, hold_2]
    cases r <;> rfl
  | some (some (.ow _)) => rfl
  | some none => rfl
  | none => rfl
@[simp ↓] theorem wp_runB {N : List Str} {gs : GS} : wp (runB N gs ds st) Q X = goK (startD N ds) (hold (q := ⟨fun δ => wpS (gs δ st) (hold (q := ⟨endK Q X⟩))⟩)) := by
  unfold runB
  show wp _ Q X = wpS (gs (startD N ds) st) (endK Q X)
  unfold wpS
  match gs (startD N ds) st with
  | none => rfl
  | some (.nx _, st') => rfl
  | some (.rt r, st') => rfl
  | some (.bk _, _) => rfl
  | some (.ct _, _) => rfl
  | some (.ex x _, st') => rfl
@[simp ↓] theorem endK_ex {x : Exn} : endK Q X (.ex x δ) st = X x st := (rfl)
@[simp ↓] theorem seqK_ex {x : Exn} : seqK b R (.ex x δ) st = R (.ex x δ) st := (rfl)
/-! freezing -/
@[simp] theorem frzS_0o {c : Con} {l : DEnv} : frzS 0 (some (.ow c) :: l) = some (.fz c.fz) :: l := (rfl)
@[simp] theorem frzS_0f {l : DEnv} : frzS 0 (some (.fz d) :: l) = some (.fz d) :: l := (rfl)
@[simp] theorem frzS_0n {l : DEnv} : frzS 0 (none :: l) = none :: l := (rfl)
@[simp] theorem frzS_nil : frzS n [] = [] := by unfold frzS ownAt; rfl
@[simp] theorem frzS_s {v : Option SV} {l : DEnv} : frzS (n + 1) (v :: l) = v :: frzS n l := by
  unfold frzS ownAt
  rw [List.getElem?_cons_succ]
  match l[n]? with
  | some (some (.ow c)) => rfl
  | some (some (.fz d)) => rfl
  | some none => rfl
  | none => rfl
@[simp ↓] theorem wpS_frz0 : wpS (sFrz [] a δ st) R = wpS (a δ st) R := (rfl)
@[simp ↓] theorem wpS_frz {is : List Nat} : wpS (sFrz (n :: is) a δ st) R = goK (frzS n δ) (hold (q := ⟨fun δ' => wpS (sFrz is a δ' st) R⟩)) := (rfl)
@[simp] theorem locAt_0 {l : DEnv} : locAt (some (.fz (.loc n)) :: l) 0 = some n := (rfl)
@[simp] theorem locAt_s {v : Option SV} {l : DEnv} : locAt (v :: l) (n + 1) = locAt l n := by
  unfold locAt
  rw [List.getElem?_cons_succ]
@[simp] theorem cellL_0 {l : Sto} : cellL (some (.lst ds) :: l) 0 = some ds := (rfl)
/-! slices -/
@[simp ↓] theorem wp_oNone {Q : Option Int → Sto → Prop} : wp (gONone δ st) Q X = Q none st := (rfl)
@[simp ↓] theorem wp_oSome {Q : Option Int → Sto → Prop} : wp (gOSome ga δ st) Q X = wp (ga δ st) (hold (q := ⟨fun r st1 => optK r.asI (hold (q := ⟨fun i => Q (some i) st1⟩))⟩)) X := by
  unfold gOSome
  rw [wp_bnd0]
  refine wp_cg fun x st1 => ?_
  try simp only [hold_1, hold_2]
  rw [wp_opt0]; rfl
@[simp ↓] theorem wp_slice {gl gh : DEnv → M (Option Int)} {k : K3} : wp (gSlice ga gl gh k δ st) Q X = wp (ga δ st) (hold (q := ⟨fun x st1 => wp (gl δ st1) (hold (q := ⟨fun lo st2 => wp (gh δ st2) (hold (q := ⟨fun hi st3 => wp (k δ x lo hi st3) Q X⟩)) X⟩)) X⟩)) X := by
  unfold gSlice
  rw [wp_bnd0]
  refine wp_cg fun x st1 => ?_
  try simp only [hold_1, hold_2]
  rw [wp_bnd0]
  refine wp_cg fun x st1 => ?_
  try simp only [hold_1, hold_2]
  rw [wp_bnd0]
  try rfl
@[simp ↓] theorem wp_sl_r {lo hi : Option Int} : wp (kSl δ (.fz (.rol ds)) lo hi st) Q X = Q (.ow (.lst (cutQ ds lo hi))) st := (rfl)
@[simp ↓] theorem wp_sl_l {lo hi : Option Int} : wp (kSl δ (.fz (.lst ds)) lo hi st) Q X = Q (.ow (.lst (cutQ ds lo hi))) st := (rfl)
@[simp ↓] theorem wp_sl_t {lo hi : Option Int} : wp (kSl δ (.fz (.tup ds)) lo hi st) Q X = Q (.fz (.tup (cutQ ds lo hi))) st := (rfl)
@[simp ↓] theorem wp_sl_s {lo hi : Option Int} (h : s.length ≤ LIM) : wp (kSl δ (.fz (.str s)) lo hi st) Q X = Q (.fz (.str (cutQ s lo hi))) st := by
  show wp ((if s.length ≤ LIM then rsv (cutQ s lo hi) else fail) st) Q X = _
  rw [if_pos h]; rfl
/-! joining -/
@[simp ↓] theorem wp_join : wp (gJoin ga gb δ st) Q X = wp (ga δ st) (hold (q := ⟨fun r st1 => optK r.asS (hold (q := ⟨fun sep => wp (gb δ st1) (hold (q := ⟨fun x st2 => optK (x.frz.asQ δ st2) (hold (q := ⟨fun ds => optK (strs? ds) (hold (q := ⟨fun ss => guardK ((ss.map List.length).sum + ss.length * sep.length ≤ LIM) (hold (q := ⟨fun _ => Q (.fz (.str (joinL sep ss))) st2⟩))⟩))⟩))⟩)) X⟩))⟩)) X := by
  unfold gJoin
  rw [wp_bnd0]
  refine wp_cg fun r st1 => ?_
  try simp only [hold_1, hold_2]
  rw [wp_opt0]
  refine optK_cg fun sep => ?_
  try simp only [hold_1, hold_2]
  rw [wp_bnd0, wp_frz0]
  refine wp_cg fun x st2 => ?_
  try simp only [hold_1, hold_2]
  rw [wp_opt0]
  refine optK_cg fun ds => ?_
  try simp only [hold_1, hold_2]
  rw [wp_opt0]
  refine optK_cg fun ss => ?_
  try simp only [hold_1, hold_2]
  unfold guardK
  split
  · rename_i h; exact propext ⟨fun z => ⟨h, z⟩, fun z => z.2⟩
  · rename_i h; exact propext ⟨fun z => False.elim z, fun z => absurd z.1 h⟩
/-! iteration -/
variable {QI : List D → Sto → Prop} {t : GT}
@[simp ↓] theorem wp_items : wp (gItems ga δ st) QI X = wp (ga δ st) (hold (q := ⟨fun r st1 => optK r.frz.items (hold (q := ⟨fun ds => QI ds st1⟩))⟩)) X := by
  unfold gItems
  rw [wp_bnd0, wp_frz0]
  refine wp_cg fun r st1 => ?_
  try simp only [hold_1, hold_2]
  rw [wp_opt0]; rfl
@[simp] theorem items_l : (Rv.fz (.lst ds)).items = some ds := (rfl)
@[simp] theorem items_r : (Rv.fz (.rol ds)).items = some ds := (rfl)
@[simp] theorem items_t : (Rv.fz (.tup ds)).items = some ds := (rfl)
@[simp] theorem items_s : (Rv.fz (.str s)).items = some (s.map fun c => .str [c]) := (rfl)
def rng1 (QI : List D → Sto → Prop) (st : Sto) : List Rv → Prop
  | [r] => optK r.asI (hold (q := ⟨fun j => guardK (okR j = true) (hold (q := ⟨fun _ => QI (rangeD 0 j.toNat) st⟩))⟩))
  | _ => False
def rng2 (QI : List D → Sto → Prop) (st : Sto) : List Rv → Prop
  | [r, r'] => optK r.asI (hold (q := ⟨fun i => optK r'.asI (hold (q := ⟨fun j => guardK ((okR i && okR j) = true) (hold (q := ⟨fun _ => QI (rangeD i (j - i).toNat) st⟩))⟩))⟩))
  | _ => False
@[simp ↓] theorem rng1_1 : rng1 QI st [r] = optK r.asI (hold (q := ⟨fun j => guardK (okR j = true) (hold (q := ⟨fun _ => QI (rangeD 0 j.toNat) st⟩))⟩)) := (rfl)
@[simp ↓] theorem rng2_2 {r' : Rv} : rng2 QI st [r, r'] = optK r.asI (hold (q := ⟨fun i => optK r'.asI (hold (q := ⟨fun j => guardK ((okR i && okR j) = true) (hold (q := ⟨fun _ => QI (rangeD i (j - i).toNat) st⟩))⟩))⟩)) := (rfl)
@[simp ↓] theorem wp_range1 : wp (gRange1 gs δ st) QI X = wp (gs δ st) (hold (q := ⟨fun rs st1 => rng1 QI st1 rs⟩)) X := by
  unfold gRange1
  rw [wp_bnd0]
  refine wp_cg fun rs st1 => ?_
  try simp only [hold_1, hold_2]
  match rs with
  | [] => rfl
  | [r] =>
    rw [rng1_1]
    show wp (opt r.asI _ st1) QI X = _
    rw [wp_opt0]
    refine optK_cg fun j => ?_
    try simp only [hold_1, hold_2]
    unfold guardK
    split
    · rename_i h; exact propext ⟨fun z => ⟨h, z⟩, fun z => z.2⟩
    · rename_i h; exact propext ⟨fun z => False.elim z, fun z => absurd z.1 h⟩
  | _ :: _ :: _ => rfl
@[simp ↓] theorem wp_range2 : wp (gRange2 gs δ st) QI X = wp (gs δ st) (hold (q := ⟨fun rs st1 => rng2 QI st1 rs⟩)) X := by
  unfold gRange2
  rw [wp_bnd0]
  refine wp_cg fun rs st1 => ?_
  try simp only [hold_1, hold_2]
  match rs with
  | [] => rfl
  | [_] => rfl
  | [r, r'] =>
    rw [rng2_2]
    show wp (opt r.asI _ st1) QI X = _
    rw [wp_opt0]
    refine optK_cg fun j => ?_
    try simp only [hold_1, hold_2]
    rw [wp_opt0]
    refine optK_cg fun j' => ?_
    try simp only [hold_1, hold_2]
    unfold guardK
    split
    · rename_i h; exact propext ⟨fun z => ⟨h, z⟩, fun z => z.2⟩
    · rename_i h; exact propext ⟨fun z => False.elim z, fun z => absurd z.1 h⟩
  | _ :: _ :: _ :: _ => rfl
@[simp ↓] theorem wpS_for {gi : DEnv → M (List D)} {body : GS} : wpS (sFor gi t body δ st) R = wp (gi δ st) (hold (q := ⟨fun ds st1 => wpS (forG t body ds δ st1) R⟩)) (hold (q := ⟨fun x st1 => R (.ex x δ) st1⟩)) := by
  unfold sFor
  rw [wpS_bnd0]
  try rfl
@[simp ↓] theorem wp_lc {gi : DEnv → M (List D)} {vs : List Nat} {tt : DEnv → M Bool} {te : DEnv → M Rv} : wp (gLc gi vs t tt te δ st) Q X = wp (gi δ st) (hold (q := ⟨fun ds st1 => goK (wipeD δ vs) (hold (q := ⟨fun δ' => wp (compG t tt te δ' ds [] st1) (hold (q := ⟨fun acc st2 => Q (.ow (.lst acc)) st2⟩)) X⟩))⟩)) X := by
  unfold gLc
  rw [wp_bnd0]
  refine wp_cg fun ds st1 => ?_
  try simp only [hold_1, hold_2]
  rw [wp_bnd0]; rfl
@[simp] theorem wipeD_nil : wipeD δ [] = δ := (rfl)
@[simp] theorem wipeD_cons {vs : List Nat} : wipeD δ (n :: vs) = (wipeD δ vs).set n none := (rfl)
@[simp] theorem tName_ap : tName n d δ = some (δ.set n (some (.fz d))) := (rfl)
end
/-! ### walks -/
section
variable {t : GT} {body : GS} {R : Fl → Sto → Prop}
/-- what the turns that may still come must keep: I before each turn -/
def turnK (I : DEnv → Sto → Prop) (B : Prop) (R : Fl → Sto → Prop) (Z : DEnv → Sto → Prop) : Fl → Sto → Prop
  | .nx δ, st => I δ st
  | .ct δ, st => I δ st
  | .bk δ, st => Z δ st
  | f, st => R f st
/-- a walk by what holds ahead of each turn -/
theorem wpS_forG (I : Nat → DEnv → Sto → Prop) : ∀ (ds : List D) (k : Nat) {δ : DEnv} {st : Sto}, I k δ st →
    (∀ (i : Nat) (d : D) (δ : DEnv) (st : Sto), ds[i]? = some d → I (k + i) δ st → optK (t d δ) fun δ1 => wpS (body δ1 st) (fun f st' => match f with
      | .nx δ' => I (k + i + 1) δ' st'
      | .ct δ' => I (k + i + 1) δ' st'
      | .bk δ' => R (.nx δ') st'
      | f => R f st')) →
    (∀ δ st, I (k + ds.length) δ st → R (.nx δ) st) → wpS (forG t body ds δ st) R
  | [], k, δ, st, h0, hs, he => he δ st h0
  | d :: ds, k, δ, st, h0, hs, he => by
    have h1 := hs 0 d δ st rfl h0
    unfold forG
    cases q : t d δ with
    | none => rw [q] at h1; exact h1.elim
    | some δ1 =>
      rw [q] at h1
      dsimp only
      obtain ⟨f, st', e, q2⟩ := wpS_of h1
      rw [e]
      have next : ∀ δ' st', I (k + 0 + 1) δ' st' → wpS (forG t body ds δ' st') R := fun δ' st' hI =>
        wpS_forG I ds (k + 1) hI (fun i d' δ st hd hi => by
          have := hs (i + 1) d' δ st (by simpa using hd) (by rw [show k + (i + 1) = k + 1 + i by omega]; exact hi)
          rw [show k + (i + 1) + 1 = k + 1 + i + 1 by omega] at this
          exact this) (fun δ st hi => he δ st (by rw [List.length_cons, show k + (ds.length + 1) = k + 1 + ds.length by omega]; exact hi))
      cases f with
      | nx δ' => exact next δ' st' q2
      | ct δ' => exact next δ' st' q2
      | bk δ' => exact q2
      | rt r => exact q2
      | ex x δ' => exact q2
end
section
variable {t : GT} {tt : DEnv → M Bool} {te : DEnv → M Rv} {X : Exn → Sto → Prop}
def itemK (r : Rv) (Q : D → Prop) : Prop := match r with
  | .fz y => Q y
  | _ => False
@[simp ↓] theorem itemK_f {d : D} {Q : D → Prop} : itemK (.fz d) Q = Q d := (rfl)
/-- a comprehension by what holds ahead of each turn, of the items made so far -/
theorem wp_compG (I : Nat → List D → Sto → Prop) {δ : DEnv} : ∀ (ds : List D) (k : Nat) (acc : List D) {st : Sto} {Q : List D → Sto → Prop}, I k acc st →
    (∀ (i : Nat) (d : D) (acc : List D) (st : Sto), ds[i]? = some d → I (k + i) acc st → optK (t d δ) fun δ1 => wp (tt δ1 st) (fun b st1 => iteK b (fun _ => wp (te δ1 st1) (fun r st2 => itemK r.frz fun y => guardK (acc.length < LIM) (fun _ => I (k + i + 1) (acc ++ [y]) st2)) noX) (fun _ => I (k + i + 1) acc st1)) noX) →
    (∀ acc st, I (k + ds.length) acc st → Q acc st) → wp (compG t tt te δ ds acc st) Q X
  | [], k, acc, st, Q, h0, hs, he => he acc st h0
  | d :: ds, k, acc, st, Q, h0, hs, he => by
    have h1 := hs 0 d acc st rfl h0
    have next : ∀ acc st, I (k + 0 + 1) acc st → wp (compG t tt te δ ds acc st) Q X := fun acc st hI =>
      wp_compG I ds (k + 1) acc hI (fun i d' acc st hd hi => by
        have := hs (i + 1) d' acc st (by simpa using hd) (by rw [show k + (i + 1) = k + 1 + i by omega]; exact hi)
        rw [show k + (i + 1) + 1 = k + 1 + i + 1 by omega] at this
        exact this) (fun acc st hi => he acc st (by rw [List.length_cons, show k + (ds.length + 1) = k + 1 + ds.length by omega]; exact hi))
    unfold compG
    cases q : t d δ with
    | none => rw [q] at h1; exact h1.elim
    | some δ1 =>
      rw [q] at h1
      dsimp only
      obtain ⟨b, st1, e, q2⟩ := wp_of (show wp (tt δ1 st) _ noX from h1)
      rw [bnd_ok (show noEx (tt δ1) st = some (.ok b, st1) by unfold noEx; rw [e])]
      cases b with
      | false => exact next acc st1 q2
      | true =>
        have q3 : wp (te δ1 st1) _ noX := q2
        obtain ⟨r, st2, e2, q4⟩ := wp_of q3
        rw [if_pos rfl, bnd_ok (show noEx (gFrz te δ1) st1 = some (.ok r.frz, st2) by unfold noEx gFrz; rw [bnd_ok e2]; rfl)]
        cases hr : r.frz with
        | ow c => rw [hr] at q4; exact q4.elim
        | vw j => rw [hr] at q4; exact q4.elim
        | fz y =>
          rw [hr] at q4
          have q5 : guardK (acc.length < LIM) (fun _ => I (k + 0 + 1) (acc ++ [y]) st2) := q4
          dsimp only
          rw [if_pos q5.1]
          exact next _ _ q5.2
/-- each item by itself, nothing else changed -/
theorem wp_compM {δ : DEnv} {f : D → D} {ds : List D} {st : Sto} {Q : List D → Sto → Prop} (hl : ds.length ≤ LIM)
    (hs : ∀ d ∈ ds, optK (t d δ) fun δ1 => wp (tt δ1 st) (fun b st1 => b = true ∧ wp (te δ1 st1) (fun r st2 => r.frz = .fz (f d) ∧ st2 = st) noX) noX) (he : Q (ds.map f) st) : wp (compG t tt te δ ds [] st) Q X := by
  refine wp_compG (fun i acc st' => st' = st ∧ acc = (ds.take i).map f) ds 0 [] ⟨rfl, by simp⟩ (fun i d acc st' hd hi => ?_) (fun acc st' hi => ?_)
  · obtain ⟨rfl, rfl⟩ := hi
    have hm : d ∈ ds := List.mem_of_getElem? hd
    have hil : i < ds.length := (List.getElem?_eq_some_iff.mp hd).1
    have h1 := hs d hm
    cases q : t d δ with
    | none => rw [q] at h1; exact h1.elim
    | some δ1 =>
      rw [q] at h1
      refine wp_mono0 (show wp (tt δ1 st') _ noX from h1) fun b st1 hb => ?_
      obtain ⟨rfl, hb⟩ := hb
      rw [iteK_t]
      refine wp_mono0 hb fun r st2 hr => ?_
      obtain ⟨e, rfl⟩ := hr
      rw [e]
      rw [itemK_f]
      refine guard_i ?_ (And.intro rfl ?_)
      · simp; omega
      rw [List.take_add_one, show ds[0 + i]? = some d by rw [Nat.zero_add]; exact hd]
      simp
  · obtain ⟨rfl, rfl⟩ := hi
    rw [Nat.zero_add, List.take_length]
    exact he
end
end DL

/-! DM3: the laws' bag; small facts. -/
namespace DL
open PySem PySem.Spec PyProof.Rows L2 TL
set_option autoImplicit false
def bagC (cs : List Int) (i a s t : Int) : Con := .lst [.lst (cs.map .int), .int i, .int a, .int s, .int t]
def Bag (st : Sto) : Prop := ∃ cs i a s t, 0 ≤ i ∧ st = [some (bagC cs i a s t)]
@[simp] theorem atI0 {α : Type} {l : List α} : atI l (0 : Int) = l[0]? := atI_nat (k := 0)
@[simp] theorem atI1 {α : Type} {l : List α} : atI l (1 : Int) = l[1]? := atI_nat (k := 1)
@[simp] theorem atI2 {α : Type} {l : List α} : atI l (2 : Int) = l[2]? := atI_nat (k := 2)
@[simp] theorem atI3 {α : Type} {l : List α} : atI l (3 : Int) = l[3]? := atI_nat (k := 3)
@[simp] theorem atI4 {α : Type} {l : List α} : atI l (4 : Int) = l[4]? := atI_nat (k := 4)
theorem setIx_nat {ds : List D} {k : Nat} {d : D} (h : k < ds.length) : setIx ds (k : Int) d = some (ds.set k d) := by
  unfold setIx ixN
  rw [if_pos (by omega), if_pos (by omega)]; simp
@[simp] theorem setIx5_1 {a b c d e x : D} : setIx [a, b, c, d, e] 1 x = some [a, x, c, d, e] := (rfl)
@[simp] theorem setIx5_2 {a b c d e x : D} : setIx [a, b, c, d, e] 2 x = some [a, b, x, d, e] := (rfl)
@[simp] theorem setIx5_3 {a b c d e x : D} : setIx [a, b, c, d, e] 3 x = some [a, b, c, x, e] := (rfl)
@[simp] theorem setIx5_4 {a b c d e x : D} : setIx [a, b, c, d, e] 4 x = some [a, b, c, d, x] := (rfl)
theorem lim_v : LIM = 16777216 := rfl
/-- few items: no list of the laws is longer -/
theorem small_lim {n : Nat} (h : n ≤ 16777216) : n ≤ LIM := h
@[simp] theorem ofNat_lim {n : Nat} : (n ≤ LIM) = (n ≤ 16777216) := propext (by unfold LIM; exact Iff.rfl)
@[simp] theorem ofNat_lim' {n : Nat} : (n < LIM) = (n < 16777216) := propext (by unfold LIM; exact Iff.rfl)
theorem divOk_of {j : Int} (h : 0 < j) (h2 : j < 2 ^ 64) : divOk j = true := by
  unfold divOk
  rw [decide_eq_true_eq]
  refine ⟨h, ?_⟩
  have hn : j.natAbs < 2 ^ 64 := by omega
  have h0 : j.natAbs ≠ 0 := by omega
  have : j.natAbs.log2 < 64 := (Nat.log2_lt h0).mpr hn
  omega
theorem bls_mapf {α : Type} (f : α → Bool) (l : List α) : bls? (l.map fun a => D.bl (f a)) = some (l.map f) := by
  have := bls_map (l.map f)
  rw [List.map_map] at this
  exact this
theorem strs_mapf {α : Type} (f : α → List Nat) (l : List α) : strs? (l.map fun a => D.str (f a)) = some (l.map f) := by
  have := strs_map (l.map f)
  rw [List.map_map] at this
  exact this
theorem ints_mapf {α : Type} (f : α → Int) (l : List α) : ints? (l.map fun a => D.int (f a)) = some (l.map f) := by
  have := ints_map (l.map f)
  rw [List.map_map] at this
  exact this
theorem range_len (lo : Int) (n : Nat) : (rangeD lo n).length = n := by simp [rangeD]
theorem range_at {lo : Int} {n i : Nat} {d : D} (h : (rangeD lo n)[i]? = some d) : i < n ∧ d = .int (lo + i) := by
  unfold rangeD at h
  rw [List.getElem?_map] at h
  by_cases hi : i < n
  · rw [List.getElem?_range hi] at h
    exact ⟨hi, (Option.some.inj h).symm⟩
  · rw [List.getElem?_eq_none (by simpa using hi)] at h; cases h
/-- a text of single signs, joined by nothing -/
theorem join_nil : ∀ ss : List (List Nat), joinL [] ss = ss.flatten
  | [] => rfl
  | [p] => by simp [joinL]
  | p :: q :: r => by rw [joinL, join_nil (q :: r)]; simp
section
variable {δ : DEnv} {st : Sto} {Q : Rv → Sto → Prop} {X : Exn → Sto → Prop} {a b : Bool} {c : Nat} {s t : List Nat} {ds : List D} {d : D}
@[simp ↓] theorem wp_in_s : wp (kIn false δ (.fz (.str [c])) (.fz (.str t)) st) Q X = Q (.fz (.bl (decide (c ∈ t)))) st := by
  show wp (rbv (xor false (decide (c ∈ t))) st) Q X = _
  rw [Bool.false_xor]; rfl
@[simp ↓] theorem wp_notin_s : wp (kIn true δ (.fz (.str [c])) (.fz (.str t)) st) Q X = Q (.fz (.bl (!decide (c ∈ t)))) st := by
  show wp (rbv (xor true (decide (c ∈ t))) st) Q X = _
  rw [Bool.true_xor]; rfl
theorem shaped_b (a : Bool) : SeqAt.shaped (.bool a) = true := by cases a <;> decide +kernel
/-! isinstance -/
theorem wp_isi1 {n : String} (h : n ∈ tyNames ∧ n ≠ "NoneType") : wp (kIsi δ [.fz d, .fz (.ty n)] st) Q X = optK d.tyN fun t => Q (.fz (.bl (isA t n))) st := by
  show wp (opt d.tyN (fun t => if n ∈ tyNames ∧ n ≠ "NoneType" then rbv (isA t n) else fail) st) Q X = _
  rw [wp_opt0]
  refine optK_cg fun t => ?_
  rw [if_pos h]; rfl
@[simp ↓] theorem wp_isi_list : wp (kIsi δ [.fz d, .fz (.ty "list")] st) Q X = optK d.tyN fun t => Q (.fz (.bl (isA t "list"))) st := wp_isi1 (by decide)
@[simp ↓] theorem wp_isi_tuple : wp (kIsi δ [.fz d, .fz (.ty "tuple")] st) Q X = optK d.tyN fun t => Q (.fz (.bl (isA t "tuple"))) st := wp_isi1 (by decide)
@[simp ↓] theorem wp_isi_int : wp (kIsi δ [.fz d, .fz (.ty "int")] st) Q X = optK d.tyN fun t => Q (.fz (.bl (isA t "int"))) st := wp_isi1 (by decide)
@[simp ↓] theorem wp_isi_str : wp (kIsi δ [.fz d, .fz (.ty "str")] st) Q X = optK d.tyN fun t => Q (.fz (.bl (isA t "str"))) st := wp_isi1 (by decide)
@[simp ↓] theorem wp_isi_bool : wp (kIsi δ [.fz d, .fz (.ty "bool")] st) Q X = optK d.tyN fun t => Q (.fz (.bl (isA t "bool"))) st := wp_isi1 (by decide)
@[simp ↓] theorem wp_isi_dict : wp (kIsi δ [.fz d, .fz (.ty "dict")] st) Q X = optK d.tyN fun t => Q (.fz (.bl (isA t "dict"))) st := wp_isi1 (by decide)
@[simp ↓] theorem wp_isi_lt : wp (kIsi δ [.fz d, .fz (.tup [.ty "list", .ty "tuple"])] st) Q X = optK d.tyN fun t => Q (.fz (.bl (isA t "list" || isA t "tuple"))) st := by
  show wp (opt d.tyN (fun t => opt (tys? [.ty "list", .ty "tuple"]) fun ns => rbv (ns.any (isA t))) st) Q X = _
  rw [wp_opt0]
  refine optK_cg fun t => ?_
  rw [show tys? [.ty "list", .ty "tuple"] = some ["list", "tuple"] from rfl]
  show Q (.fz (.bl (["list", "tuple"].any (isA t)))) st = _
  simp
@[simp] theorem tyN_l : D.tyN (.lst ds) = some "list" := (rfl)
@[simp] theorem tyN_t : D.tyN (.tup ds) = some "tuple" := (rfl)
@[simp] theorem tyN_i {i : Int} : D.tyN (.int i) = some "int" := (rfl)
@[simp] theorem tyN_b : D.tyN (.bl b) = some "bool" := (rfl)
@[simp] theorem tyN_s : D.tyN (.str s) = some "str" := (rfl)
@[simp] theorem tyN_n : D.tyN .non = some "NoneType" := (rfl)
@[simp] theorem isA_bl : isA "bool" "bool" = true := by decide
@[simp] theorem isA_bi : isA "bool" "int" = true := by decide
@[simp] theorem isA_ii : isA "int" "int" = true := by decide
@[simp] theorem isA_ib : isA "int" "bool" = false := by decide
@[simp] theorem isA_is : isA "int" "str" = false := by decide
@[simp] theorem isA_bs : isA "bool" "str" = false := by decide
@[simp] theorem isA_ss : isA "str" "str" = true := by decide
@[simp] theorem isA_si : isA "str" "int" = false := by decide
@[simp] theorem isA_sb : isA "str" "bool" = false := by decide
@[simp] theorem isA_sl : isA "str" "list" = false := by decide
@[simp] theorem isA_st : isA "str" "tuple" = false := by decide
@[simp] theorem isA_il : isA "int" "list" = false := by decide
@[simp] theorem isA_it : isA "int" "tuple" = false := by decide
@[simp] theorem isA_bll : isA "bool" "list" = false := by decide
@[simp] theorem isA_blt : isA "bool" "tuple" = false := by decide
@[simp] theorem isA_nl : isA "NoneType" "list" = false := by decide
@[simp] theorem isA_nt : isA "NoneType" "tuple" = false := by decide
@[simp] theorem isA_ll : isA "list" "list" = true := by decide
@[simp] theorem isA_lt : isA "list" "tuple" = false := by decide
@[simp] theorem isA_tl : isA "tuple" "list" = false := by decide
@[simp] theorem isA_tt : isA "tuple" "tuple" = true := by decide
@[simp] theorem isA_ls : isA "list" "str" = false := by decide
@[simp] theorem isA_li : isA "list" "int" = false := by decide
@[simp] theorem isA_ts : isA "tuple" "str" = false := by decide
@[simp] theorem isA_ti : isA "tuple" "int" = false := by decide
/-! is -/
@[simp ↓] theorem wp_is_non : wp (kIs false δ (.fz d) (.fz .non) st) Q X = Q (.fz (.bl (Rv.isNon (.fz d)))) st := by
  cases d <;> rfl
@[simp ↓] theorem wp_isnot_non : wp (kIs true δ (.fz d) (.fz .non) st) Q X = Q (.fz (.bl (!Rv.isNon (.fz d)))) st := by
  cases d <;> rfl
@[simp] theorem isNon_n : Rv.isNon (.fz .non) = true := (rfl)
@[simp] theorem isNon_i {i : Int} : Rv.isNon (.fz (.int i)) = false := (rfl)
@[simp] theorem isNon_b : Rv.isNon (.fz (.bl b)) = false := (rfl)
@[simp] theorem isNon_s : Rv.isNon (.fz (.str s)) = false := (rfl)
@[simp] theorem isNon_l : Rv.isNon (.fz (.lst ds)) = false := (rfl)
@[simp] theorem isNon_t : Rv.isNon (.fz (.tup ds)) = false := (rfl)
end
/-- plain data of at most n levels -/
def plB : Nat → D → Bool
  | 0, _ => false
  | _ + 1, .non => true
  | _ + 1, .bl _ => true
  | _ + 1, .int _ => true
  | _ + 1, .str _ => true
  | n + 1, .lst ds => decide (ds.length ≤ 16777216) && ds.all (plB n)
  | n + 1, .tup ds => decide (ds.length ≤ 16777216) && ds.all (plB n)
  | _, _ => false
/-- a text of small letters -/
def letters : List Nat := [97, 98, 99, 100, 101, 102, 103, 104, 105, 106, 107, 108, 109, 110, 111, 112, 113, 114, 115, 116, 117, 118, 119, 120, 121, 122]
theorem mem_letters (c : Nat) : c ∈ letters ↔ 97 ≤ c ∧ c ≤ 122 := by
  unfold letters
  simp only [List.mem_cons, List.not_mem_nil, or_false]
  omega
theorem lt_one (a b : Nat) : decide ([a] < [b]) = decide (a < b) := by
  apply dec_iff
  constructor
  · intro h
    cases h with
    | rel h => exact h
    | cons h => cases h
  · exact fun h => .rel h
theorem flat_one : ∀ w : List Nat, (w.map fun c => [c]).flatten = w
  | [] => rfl
  | a :: l => by rw [List.map_cons, List.flatten_cons, flat_one l]; rfl
@[simp] theorem join_one (w : List Nat) : joinL [] (w.map fun c => [c]) = w := by rw [join_nil, flat_one]
@[simp] theorem sum_one : ∀ w : List Nat, (List.map (List.length ∘ fun c => [c]) w).sum = w.length
  | [] => rfl
  | a :: l => by rw [List.map_cons, List.sum_cons, sum_one l, List.length_cons]; show 1 + l.length = l.length + 1; omega
@[simp] theorem sum_ones {α : Type} : ∀ w : List α, (List.map (fun _ => 1) w).sum = w.length
  | [] => rfl
  | a :: l => by rw [List.map_cons, List.sum_cons, sum_ones l, List.length_cons]; omega
/-- the sign at a place -/
def nth (s : List Nat) (i : Nat) : Nat := s.getD i 0
theorem at_ok {s : List Nat} {i : Nat} (h : i < s.length) : s[i]? = some (nth s i) := by
  unfold nth
  rw [List.getElem?_eq_getElem h, List.getD_eq_getElem?_getD, List.getElem?_eq_getElem h]; rfl
@[simp] theorem all_true {α : Type} (l : List α) : (l.all fun _ => true) = true := List.all_eq_true.mpr fun _ _ => rfl
theorem okR_ok {j : Int} (h : -4611686018427387904 ≤ j) (h2 : j < 4611686018427387904) : okR j = true := by
  unfold okR
  rw [decide_eq_true_eq]
  exact ⟨h, h2⟩
/-- by place: the items of a range -/
theorem wp_compR {t : GT} {tt : DEnv → M Bool} {te : DEnv → M Rv} {X : Exn → Sto → Prop} {δ : DEnv} {f : Nat → D} {lo : Int} {n : Nat} {st : Sto} {Q : List D → Sto → Prop} (hl : n ≤ 16777216)
    (hs : ∀ i : Nat, i < n → optK (t (.int (lo + i)) δ) fun δ1 => wp (tt δ1 st) (fun b st1 => b = true ∧ wp (te δ1 st1) (fun r st2 => r.frz = .fz (f i) ∧ st2 = st) noX) noX) (he : Q ((List.range n).map f) st) : wp (compG t tt te δ (rangeD lo n) [] st) Q X := by
  refine wp_compG (fun i acc st' => st' = st ∧ acc = (List.range i).map f) _ 0 [] ⟨rfl, rfl⟩ (fun i d acc st' hd hi => ?_) (fun acc st' hi => ?_)
  · obtain ⟨rfl, rfl⟩ := hi
    obtain ⟨hi, rfl⟩ := range_at hd
    have h1 := hs i hi
    cases q : t (.int (lo + i)) δ with
    | none => rw [q] at h1; exact h1.elim
    | some δ1 =>
      rw [q] at h1
      refine wp_mono0 (show wp (tt δ1 st') _ noX from h1) fun b st1 hb => ?_
      obtain ⟨rfl, hb⟩ := hb
      rw [iteK_t]
      refine wp_mono0 hb fun r st2 hr => ?_
      obtain ⟨e, rfl⟩ := hr
      rw [e]
      rw [itemK_f]
      refine guard_i ?_ (And.intro rfl ?_)
      · simp; omega
      rw [Nat.zero_add, List.range_succ, List.map_append]; rfl
  · obtain ⟨rfl, rfl⟩ := hi
    rw [Nat.zero_add, range_len]
    exact he
section
variable {δ : DEnv} {st : Sto} {Q : Rv → Sto → Prop} {X : Exn → Sto → Prop} {s : List Nat} {ds es : List D} {n : Nat}
@[simp ↓] theorem wp_listA_s (h : s.length ≤ LIM) : wp (kListA δ [.fz (.str s)] st) Q X = Q (.ow (.lst (chrD s))) st := by
  show wp ((if s.length ≤ LIM then ret (.ow (.lst (chrD s))) else fail) st) Q X = _
  rw [if_pos h]; rfl
@[simp ↓] theorem wp_listA_o : wp (kListA δ [.ow (.lst ds)] st) Q X = Q (.ow (.lst ds)) st := (rfl)
@[simp ↓] theorem wp_listA_l : wp (kListA δ [.fz (.lst ds)] st) Q X = Q (.ow (.lst ds)) st := (rfl)
@[simp ↓] theorem wp_listA_t : wp (kListA δ [.fz (.tup ds)] st) Q X = Q (.ow (.lst ds)) st := (rfl)
@[simp ↓] theorem wp_listA_r : wp (kListA δ [.fz (.rol ds)] st) Q X = Q (.ow (.lst ds)) st := (rfl)
@[simp ↓] theorem wp_listA_v : wp (kListA δ [.vw n] st) Q X = optK (ownL δ n) fun ds => Q (.ow (.lst ds)) st := by
  show wp (opt (Rv.asQ δ st (.vw n)) (fun ds => ret (.ow (.lst ds))) st) Q X = _
  rw [wp_opt, asQ_vw]; rfl
theorem ints_strs : ∀ {ss : List (List Nat)}, ss ≠ [] → ints? (ss.map D.str) = none
  | [], h => absurd rfl h
  | s :: ss, _ => rfl
/-- texts sorted -/
theorem wp_sortS {x : Rv} {ss : List (List Nat)} (h : x.asR δ st = some (ss.map D.str)) (hl : ss.length < 64) (hQ : Q (.ow (.lst ((isort leS ss).map D.str))) st) : wp (kSorted δ [x] st) Q X := by
  by_cases e : ss = []
  · subst e
    have e2 : isInts δ [x] st = true := by
      show ((x.asR δ st).bind ints?).isSome = true
      rw [h]; rfl
    show wp (if isInts δ [x] st then kSortI δ [x] st else kSortS δ [x] st) Q X
    rw [if_pos e2]
    show wp (opt (x.asR δ st) (fun ds => opt (ints? ds) fun ns => ret (.ow (.lst ((isort leI ns).map D.int)))) st) Q X
    rw [wp_opt0, h]
    exact hQ
  · have e2 : isInts δ [x] st = false := by
      show ((x.asR δ st).bind ints?).isSome = false
      rw [h]
      show (ints? (ss.map D.str)).isSome = false
      rw [ints_strs e]; rfl
    show wp (if isInts δ [x] st then kSortI δ [x] st else kSortS δ [x] st) Q X
    rw [e2, if_neg Bool.false_ne_true]
    show wp (opt (x.asR δ st) (fun ds => opt (strs? ds) fun ns => if ns.length < 64 then ret (.ow (.lst ((isort leS ns).map D.str))) else fail) st) Q X
    rw [wp_opt0, h]
    show wp (opt (strs? (ss.map D.str)) (fun ns => if ns.length < 64 then ret (.ow (.lst ((isort leS ns).map D.str))) else fail) st) Q X
    rw [wp_opt0, strs_map]
    show wp ((if ss.length < 64 then ret (.ow (.lst ((isort leS ss).map D.str))) else fail) st) Q X
    rw [if_pos hl]
    exact hQ
theorem chr_strs (w : List Nat) : chrD w = (w.map fun c => [c]).map D.str := by unfold chrD; rw [List.map_map]; rfl
/-- single signs, sorted, are single signs -/
theorem sort_ones (w : List Nat) : ∃ v : List Nat, isort leS (w.map fun c => [c]) = v.map (fun c => [c]) ∧ v.length = w.length ∧ ∀ c ∈ v, c ∈ w := by
  have p := isort_perm leS (w.map fun c => [c])
  have hm : ∀ x ∈ isort leS (w.map fun c => [c]), ∃ c ∈ w, x = [c] := fun x hx => by
    obtain ⟨c, hc, e⟩ := List.mem_map.mp (p.mem_iff.mp hx)
    exact ⟨c, hc, e.symm⟩
  have key : ∀ l : List (List Nat), (∀ x ∈ l, ∃ c ∈ w, x = [c]) → ∃ v : List Nat, l = v.map (fun c => [c]) ∧ ∀ c ∈ v, c ∈ w := fun l => by
    induction l with
    | nil => exact fun _ => ⟨[], rfl, by simp⟩
    | cons x l ih =>
      intro h
      obtain ⟨v, e, hv⟩ := ih fun y hy => h y (List.mem_cons_of_mem _ hy)
      obtain ⟨c, hc, rfl⟩ := h x List.mem_cons_self
      exact ⟨c :: v, by rw [e]; rfl, fun d hd => by
        rcases List.mem_cons.mp hd with rfl | hd
        · exact hc
        · exact hv d hd⟩
  obtain ⟨v, e, hv⟩ := key _ hm
  refine ⟨v, e, ?_, hv⟩
  have := p.length_eq
  rw [e, List.length_map, List.length_map] at this
  exact this
end
@[simp] theorem strs_comp {α : Type} (f : α → List Nat) (l : List α) : strs? (l.map (D.str ∘ f)) = some (l.map f) := strs_mapf f l
@[simp] theorem bls_comp {α : Type} (f : α → Bool) (l : List α) : bls? (l.map (D.bl ∘ f)) = some (l.map f) := bls_mapf f l
@[simp] theorem ints_comp {α : Type} (f : α → Int) (l : List α) : ints? (l.map (D.int ∘ f)) = some (l.map f) := ints_mapf f l
/-- two names at once -/
def parK (i j : Nat) (rs : Option (List D)) (δ : DEnv) (st : Sto) (R : Fl → Sto → Prop) : Prop := match rs with
  | some [d, e] => R (.nx ((δ.set i (some (.fz d))).set j (some (.fz e)))) st
  | _ => False
@[simp ↓] theorem parK_2 {i j : Nat} {d e : D} {δ : DEnv} {st : Sto} {R : Fl → Sto → Prop} : parK i j (some [d, e]) δ st R = goK ((δ.set i (some (.fz d))).set j (some (.fz e))) (hold (q := ⟨fun δ' => R (.nx δ') st⟩)) := (rfl)
@[simp ↓] theorem wpS_par {i j : Nat} {gs : DEnv → M (List Rv)} {δ : DEnv} {st : Sto} {R : Fl → Sto → Prop} : wpS (sPar i j gs δ st) R = wp (gs δ st) (hold (q := ⟨fun rs st1 => parK i j (allD rs) δ st1 (hold (q := ⟨R⟩))⟩)) (hold (q := ⟨fun x st1 => R (.ex x δ) st1⟩)) := by
  unfold sPar
  rw [wpS_bnd0]
  refine wp_cg fun rs st1 => ?_
  simp only [hold_2]
  unfold parK
  match allD rs with
  | none => rfl
  | some [] => rfl
  | some [_] => rfl
  | some [_, _] => rfl
  | some (_ :: _ :: _ :: _) => rfl
def ownTK (r : Rv) (Q : List D → Prop) : Prop := match r with
  | .ow (.lst ds) => Q ds
  | _ => False
@[simp ↓] theorem ownTK_l {ds : List D} {Q : List D → Prop} : ownTK (.ow (.lst ds)) Q = Q ds := (rfl)
@[simp ↓] theorem wpS_ownT {ga : DEnv → M Rv} {gs : DEnv → M (List Rv)} {f : List D → List D → Option (List D)} {δ : DEnv} {st : Sto} {R : Fl → Sto → Prop} : wpS (sOwnT ga gs f δ st) R = wp (ga δ st) (hold (q := ⟨fun r st1 => ownTK r (hold (q := ⟨fun ds => wp (gs δ st1) (hold (q := ⟨fun rs st2 => optK ((allD rs).bind (f ds)) (hold (q := ⟨fun _ => R (.nx δ) st2⟩))⟩)) (hold (q := ⟨fun x st2 => R (.ex x δ) st2⟩))⟩))⟩)) (hold (q := ⟨fun x st1 => R (.ex x δ) st1⟩)) := by
  unfold sOwnT
  rw [wpS_bnd0]
  refine wp_cg fun r st1 => ?_
  simp only [hold_2]
  match r with
  | .ow (.lst ds) =>
    rw [ownTK_l, hold_1]
    show wpS (sBnd (gs δ) δ _ st1) R = _
    rw [wpS_bnd0]
    refine wp_cg fun rs st2 => ?_
    simp only [hold_2]
    cases ((allD rs).bind (f ds)) <;> rfl
  | .ow (.dk _) => rfl
  | .ow (.dt _) => rfl
  | .ow (.obj _ _) => rfl
  | .fz _ => rfl
  | .vw _ => rfl
end DL

/-! DM4: == of plain data evaluated. -/
namespace DL
open PySem PySem.Spec PyProof.Rows L2 TL
set_option autoImplicit false
section
variable {δ : DEnv} {st : Sto} {i : Int} {b : Bool} {s : List Nat} {x y : Rv} {ds es : List D} {d e : D} {n m : Nat} {c : Con} {X : Exn → Sto → Prop} {Q : Rv → Sto → Prop}
@[simp] theorem asI_l : (Rv.fz (.lst ds)).asI = none := (rfl)
@[simp] theorem asI_t : (Rv.fz (.tup ds)).asI = none := (rfl)
@[simp] theorem asI_s : (Rv.fz (.str s)).asI = none := (rfl)
@[simp] theorem asI_n : (Rv.fz .non).asI = none := (rfl)
@[simp] theorem asI_b : (Rv.fz (.bl b)).asI = none := (rfl)
@[simp] theorem asI_o : (Rv.ow c).asI = none := (rfl)
@[simp] theorem asI_vw : (Rv.vw n).asI = none := (rfl)
@[simp] theorem asI_c : (Rv.fz (.loc n)).asI = none := (rfl)
@[simp] theorem asS_l : (Rv.fz (.lst ds)).asS = none := (rfl)
@[simp] theorem asS_t : (Rv.fz (.tup ds)).asS = none := (rfl)
@[simp] theorem asS_i : (Rv.fz (.int i)).asS = none := (rfl)
@[simp] theorem asS_n : (Rv.fz .non).asS = none := (rfl)
@[simp] theorem asS_b : (Rv.fz (.bl b)).asS = none := (rfl)
@[simp] theorem asS_o : (Rv.ow c).asS = none := (rfl)
@[simp] theorem asS_vw : (Rv.vw n).asS = none := (rfl)
@[simp] theorem asS_c : (Rv.fz (.loc n)).asS = none := (rfl)
@[simp] theorem isII_eq : isII δ x y = (x.asI.isSome && y.asI.isSome) := (rfl)
@[simp] theorem isSS_eq : isSS δ x y = (x.asS.isSome && y.asS.isSome) := (rfl)
@[simp] theorem dat_fz : Rv.dat δ (.fz d) = some d := (rfl)
@[simp] theorem dat_ow : Rv.dat δ (.ow c) = some c.fz := (rfl)
@[simp] theorem dat_vw : Rv.dat δ (.vw n) = (ownAt δ n).map Con.fz := (rfl)
@[simp] theorem ownAt_0o {l : DEnv} : ownAt (some (.ow c) :: l) 0 = some c := (rfl)
@[simp] theorem ownAt_0f {l : DEnv} : ownAt (some (.fz d) :: l) 0 = none := (rfl)
@[simp] theorem ownAt_s {a : Option SV} {l : DEnv} : ownAt (a :: l) (n + 1) = ownAt l n := by
  unfold ownAt
  rw [List.getElem?_cons_succ]
/-! plain -/
@[simp] theorem okd_non : D.ok n .non = true := by cases n <;> rfl
@[simp] theorem okd_bl : D.ok n (.bl b) = true := by cases n <;> rfl
@[simp] theorem okd_int : D.ok n (.int i) = true := by cases n <;> rfl
@[simp] theorem okd_str : D.ok n (.str s) = s.all fun c => decide (c < 1114112) := by cases n <;> rfl
@[simp] theorem okd_tup : D.ok (n + 1) (.tup ds) = ds.all (D.ok n) := (rfl)
@[simp] theorem okd_lst : D.ok (n + 1) (.lst ds) = ds.all (D.ok n) := (rfl)
/-! equal -/
@[simp] theorem deq_nn : deq .non .non = true := by simp [deq]
@[simp] theorem deq_nb : deq .non (.bl b) = false := by simp [deq]
@[simp] theorem deq_ni : deq .non (.int i) = false := by simp [deq]
@[simp] theorem deq_ns : deq .non (.str s) = false := by simp [deq]
@[simp] theorem deq_nt : deq .non (.tup ds) = false := by simp [deq]
@[simp] theorem deq_nl : deq .non (.lst ds) = false := by simp [deq]
@[simp] theorem deq_bb {b' : Bool} : deq (.bl b) (.bl b') = (b == b') := by simp [deq]
@[simp] theorem deq_bi : deq (.bl b) (.int i) = decide (ib b = i) := by simp [deq]
@[simp] theorem deq_bn : deq (.bl b) .non = false := by simp [deq]
@[simp] theorem deq_bs : deq (.bl b) (.str s) = false := by simp [deq]
@[simp] theorem deq_bt : deq (.bl b) (.tup ds) = false := by simp [deq]
@[simp] theorem deq_bl' : deq (.bl b) (.lst ds) = false := by simp [deq]
@[simp] theorem deq_ii {j : Int} : deq (.int i) (.int j) = decide (i = j) := by simp [deq]
@[simp] theorem deq_ib : deq (.int i) (.bl b) = decide (i = ib b) := by simp [deq]
@[simp] theorem deq_in : deq (.int i) .non = false := by simp [deq]
@[simp] theorem deq_is : deq (.int i) (.str s) = false := by simp [deq]
@[simp] theorem deq_it : deq (.int i) (.tup ds) = false := by simp [deq]
@[simp] theorem deq_il : deq (.int i) (.lst ds) = false := by simp [deq]
@[simp] theorem deq_ss {t : List Nat} : deq (.str s) (.str t) = decide (s = t) := by simp [deq]
@[simp] theorem deq_sn : deq (.str s) .non = false := by simp [deq]
@[simp] theorem deq_sb : deq (.str s) (.bl b) = false := by simp [deq]
@[simp] theorem deq_si : deq (.str s) (.int i) = false := by simp [deq]
@[simp] theorem deq_st : deq (.str s) (.tup ds) = false := by simp [deq]
@[simp] theorem deq_sl : deq (.str s) (.lst ds) = false := by simp [deq]
@[simp] theorem deq_tt : deq (.tup ds) (.tup es) = deqs ds es := by simp [deq]
@[simp] theorem deq_tn : deq (.tup ds) .non = false := by simp [deq]
@[simp] theorem deq_ti : deq (.tup ds) (.int i) = false := by simp [deq]
@[simp] theorem deq_tb : deq (.tup ds) (.bl b) = false := by simp [deq]
@[simp] theorem deq_ts : deq (.tup ds) (.str s) = false := by simp [deq]
@[simp] theorem deq_tl : deq (.tup ds) (.lst es) = false := by simp [deq]
@[simp] theorem deq_ll : deq (.lst ds) (.lst es) = deqs ds es := by simp [deq]
@[simp] theorem deq_ln : deq (.lst ds) .non = false := by simp [deq]
@[simp] theorem deq_li : deq (.lst ds) (.int i) = false := by simp [deq]
@[simp] theorem deq_lb : deq (.lst ds) (.bl b) = false := by simp [deq]
@[simp] theorem deq_ls : deq (.lst ds) (.str s) = false := by simp [deq]
@[simp] theorem deq_lt : deq (.lst ds) (.tup es) = false := by simp [deq]
@[simp] theorem deqs_nn : deqs [] [] = true := by simp [deqs]
@[simp] theorem deqs_nc : deqs [] (e :: es) = false := by simp [deqs]
@[simp] theorem deqs_cn : deqs (d :: ds) [] = false := by simp [deqs]
@[simp] theorem deqs_cc : deqs (d :: ds) (e :: es) = (deq d e && deqs ds es) := by simp [deqs]
theorem deqs_nil : deqs ds [] = decide (ds = []) := by cases ds <;> simp
end
mutual
theorem deq_refl : ∀ {n : Nat} {d : D}, D.ok n d = true → deq d d = true
  | n, .non, _ => by simp
  | n, .bl _, _ => by simp
  | n, .int _, _ => by simp
  | n, .str _, _ => by simp
  | n + 1, .tup ds, h => by simp at h; simp; exact deqs_refl h
  | n + 1, .lst ds, h => by simp at h; simp; exact deqs_refl h
  | 0, .tup _, h => by cases h
  | 0, .lst _, h => by cases h
  | 0, .rol _, h => by cases h
  | 0, .obj _ _, h => by cases h
  | 0, .dk _, h => by cases h
  | 0, .dt _, h => by cases h
  | 0, .loc _, h => by cases h
  | 0, .ty _, h => by cases h
  | n + 1, .rol _, h => by cases h
  | n + 1, .obj _ _, h => by cases h
  | n + 1, .dk _, h => by cases h
  | n + 1, .dt _, h => by cases h
  | n + 1, .loc _, h => by cases h
  | n + 1, .ty _, h => by cases h
theorem deqs_refl : ∀ {n : Nat} {ds : List D}, (∀ x ∈ ds, D.ok n x = true) → deqs ds ds = true
  | n, [], _ => by simp
  | n, d :: ds, h => by
    rw [deqs_cc, Bool.and_eq_true]
    exact ⟨deq_refl (h d (by simp)), deqs_refl fun x hx => h x (by simp [hx])⟩
end
/-- an encoding whose == is = -/
theorem deqs_map {α : Type} [DecidableEq α] {f : α → D} (hf : ∀ a b, deq (f a) (f b) = decide (a = b)) : ∀ (l m : List α), deqs (l.map f) (m.map f) = decide (l = m)
  | [], [] => by simp
  | [], b :: m => by simp
  | a :: l, [] => by simp
  | a :: l, b :: m => by
    simp [hf, deqs_map hf l m]
section
variable {δ : DEnv} {st : Sto} {i : Int} {b c : Bool} {s : List Nat} {x y : Rv} {ds es : List D} {d e : D} {n m : Nat} {X : Exn → Sto → Prop} {Q : Rv → Sto → Prop}
theorem kEq'_P (h : (isII δ x y || isSS δ x y) = false) : kEq' b δ x y = kEqP b δ x y := by
  rw [Bool.or_eq_false_iff] at h
  unfold kEq' kOr
  rw [h.1, h.2]
  rfl
theorem wp_eqP0 : wp (kEqP b δ x y st) Q X = optK (x.dat δ) (hold (q := ⟨fun d => optK (y.dat δ) (hold (q := ⟨fun e => guardK ((D.ok 64 d && D.ok 64 e) = true) (hold (q := ⟨fun _ => Q (.fz (.bl (xor b (deq d e)))) st⟩))⟩))⟩)) := by
  unfold kEqP
  rw [wp_opt0]
  refine optK_cg fun d => ?_
  try simp only [hold_1, hold_2]
  rw [wp_opt0]
  refine optK_cg fun e => ?_
  try simp only [hold_1, hold_2]
  rw [wp_ite]
  unfold guardK
  split
  · rename_i h; exact propext ⟨fun z => ⟨h, z⟩, fun z => z.2⟩
  · rename_i h; exact propext ⟨fun z => False.elim z, fun z => absurd z.1 h⟩
theorem wp_eqP (h : (isII δ x y || isSS δ x y) = false) : wp (kEq' b δ x y st) Q X = optK (x.dat δ) (hold (q := ⟨fun d => optK (y.dat δ) (hold (q := ⟨fun e => guardK ((D.ok 64 d && D.ok 64 e) = true) (hold (q := ⟨fun _ => Q (.fz (.bl (xor b (deq d e)))) st⟩))⟩))⟩)) := by
  rw [kEq'_P h, wp_eqP0]
variable {cc : Con}
@[simp ↓] theorem wp_eqP_n : wp (kEq' b δ (.fz .non) y st) Q X = optK (Rv.dat δ (.fz .non)) (hold (q := ⟨fun d => optK (y.dat δ) (hold (q := ⟨fun e => guardK ((D.ok 64 d && D.ok 64 e) = true) (hold (q := ⟨fun _ => Q (.fz (.bl (xor b (deq d e)))) st⟩))⟩))⟩)) := wp_eqP rfl
@[simp ↓] theorem wp_eqP_b : wp (kEq' b δ (.fz (.bl c)) y st) Q X = optK (Rv.dat δ (.fz (.bl c))) (hold (q := ⟨fun d => optK (y.dat δ) (hold (q := ⟨fun e => guardK ((D.ok 64 d && D.ok 64 e) = true) (hold (q := ⟨fun _ => Q (.fz (.bl (xor b (deq d e)))) st⟩))⟩))⟩)) := wp_eqP rfl
@[simp ↓] theorem wp_eqP_t : wp (kEq' b δ (.fz (.tup ds)) y st) Q X = optK (Rv.dat δ (.fz (.tup ds))) (hold (q := ⟨fun d => optK (y.dat δ) (hold (q := ⟨fun e => guardK ((D.ok 64 d && D.ok 64 e) = true) (hold (q := ⟨fun _ => Q (.fz (.bl (xor b (deq d e)))) st⟩))⟩))⟩)) := wp_eqP rfl
@[simp ↓] theorem wp_eqP_l : wp (kEq' b δ (.fz (.lst ds)) y st) Q X = optK (Rv.dat δ (.fz (.lst ds))) (hold (q := ⟨fun d => optK (y.dat δ) (hold (q := ⟨fun e => guardK ((D.ok 64 d && D.ok 64 e) = true) (hold (q := ⟨fun _ => Q (.fz (.bl (xor b (deq d e)))) st⟩))⟩))⟩)) := wp_eqP rfl
@[simp ↓] theorem wp_eqP_o : wp (kEq' b δ (.ow cc) y st) Q X = optK (Rv.dat δ (.ow cc)) (hold (q := ⟨fun d => optK (y.dat δ) (hold (q := ⟨fun e => guardK ((D.ok 64 d && D.ok 64 e) = true) (hold (q := ⟨fun _ => Q (.fz (.bl (xor b (deq d e)))) st⟩))⟩))⟩)) := wp_eqP rfl
@[simp ↓] theorem wp_eqP_v : wp (kEq' b δ (.vw n) y st) Q X = optK (Rv.dat δ (.vw n)) (hold (q := ⟨fun d => optK (y.dat δ) (hold (q := ⟨fun e => guardK ((D.ok 64 d && D.ok 64 e) = true) (hold (q := ⟨fun _ => Q (.fz (.bl (xor b (deq d e)))) st⟩))⟩))⟩)) := wp_eqP rfl
@[simp ↓] theorem wp_eqP_in : wp (kEq' b δ (.fz (.int i)) (.fz .non) st) Q X = optK (Rv.dat δ (.fz (.int i))) (hold (q := ⟨fun d => optK (Rv.dat δ (.fz .non)) (hold (q := ⟨fun e => guardK ((D.ok 64 d && D.ok 64 e) = true) (hold (q := ⟨fun _ => Q (.fz (.bl (xor b (deq d e)))) st⟩))⟩))⟩)) := wp_eqP rfl
@[simp ↓] theorem wp_eqP_ib : wp (kEq' b δ (.fz (.int i)) (.fz (.bl c)) st) Q X = optK (Rv.dat δ (.fz (.int i))) (hold (q := ⟨fun d => optK (Rv.dat δ (.fz (.bl c))) (hold (q := ⟨fun e => guardK ((D.ok 64 d && D.ok 64 e) = true) (hold (q := ⟨fun _ => Q (.fz (.bl (xor b (deq d e)))) st⟩))⟩))⟩)) := wp_eqP rfl
@[simp ↓] theorem wp_eqP_is : wp (kEq' b δ (.fz (.int i)) (.fz (.str s)) st) Q X = optK (Rv.dat δ (.fz (.int i))) (hold (q := ⟨fun d => optK (Rv.dat δ (.fz (.str s))) (hold (q := ⟨fun e => guardK ((D.ok 64 d && D.ok 64 e) = true) (hold (q := ⟨fun _ => Q (.fz (.bl (xor b (deq d e)))) st⟩))⟩))⟩)) := wp_eqP rfl
@[simp ↓] theorem wp_eqP_it : wp (kEq' b δ (.fz (.int i)) (.fz (.tup ds)) st) Q X = optK (Rv.dat δ (.fz (.int i))) (hold (q := ⟨fun d => optK (Rv.dat δ (.fz (.tup ds))) (hold (q := ⟨fun e => guardK ((D.ok 64 d && D.ok 64 e) = true) (hold (q := ⟨fun _ => Q (.fz (.bl (xor b (deq d e)))) st⟩))⟩))⟩)) := wp_eqP rfl
@[simp ↓] theorem wp_eqP_il : wp (kEq' b δ (.fz (.int i)) (.fz (.lst ds)) st) Q X = optK (Rv.dat δ (.fz (.int i))) (hold (q := ⟨fun d => optK (Rv.dat δ (.fz (.lst ds))) (hold (q := ⟨fun e => guardK ((D.ok 64 d && D.ok 64 e) = true) (hold (q := ⟨fun _ => Q (.fz (.bl (xor b (deq d e)))) st⟩))⟩))⟩)) := wp_eqP rfl
@[simp ↓] theorem wp_eqP_io : wp (kEq' b δ (.fz (.int i)) (.ow cc) st) Q X = optK (Rv.dat δ (.fz (.int i))) (hold (q := ⟨fun d => optK (Rv.dat δ (.ow cc)) (hold (q := ⟨fun e => guardK ((D.ok 64 d && D.ok 64 e) = true) (hold (q := ⟨fun _ => Q (.fz (.bl (xor b (deq d e)))) st⟩))⟩))⟩)) := wp_eqP rfl
@[simp ↓] theorem wp_eqP_iv : wp (kEq' b δ (.fz (.int i)) (.vw n) st) Q X = optK (Rv.dat δ (.fz (.int i))) (hold (q := ⟨fun d => optK (Rv.dat δ (.vw n)) (hold (q := ⟨fun e => guardK ((D.ok 64 d && D.ok 64 e) = true) (hold (q := ⟨fun _ => Q (.fz (.bl (xor b (deq d e)))) st⟩))⟩))⟩)) := wp_eqP rfl
@[simp ↓] theorem wp_eqP_sn : wp (kEq' b δ (.fz (.str s)) (.fz .non) st) Q X = optK (Rv.dat δ (.fz (.str s))) (hold (q := ⟨fun d => optK (Rv.dat δ (.fz .non)) (hold (q := ⟨fun e => guardK ((D.ok 64 d && D.ok 64 e) = true) (hold (q := ⟨fun _ => Q (.fz (.bl (xor b (deq d e)))) st⟩))⟩))⟩)) := wp_eqP rfl
@[simp ↓] theorem wp_eqP_sb : wp (kEq' b δ (.fz (.str s)) (.fz (.bl c)) st) Q X = optK (Rv.dat δ (.fz (.str s))) (hold (q := ⟨fun d => optK (Rv.dat δ (.fz (.bl c))) (hold (q := ⟨fun e => guardK ((D.ok 64 d && D.ok 64 e) = true) (hold (q := ⟨fun _ => Q (.fz (.bl (xor b (deq d e)))) st⟩))⟩))⟩)) := wp_eqP rfl
@[simp ↓] theorem wp_eqP_si : wp (kEq' b δ (.fz (.str s)) (.fz (.int i)) st) Q X = optK (Rv.dat δ (.fz (.str s))) (hold (q := ⟨fun d => optK (Rv.dat δ (.fz (.int i))) (hold (q := ⟨fun e => guardK ((D.ok 64 d && D.ok 64 e) = true) (hold (q := ⟨fun _ => Q (.fz (.bl (xor b (deq d e)))) st⟩))⟩))⟩)) := wp_eqP rfl
@[simp ↓] theorem wp_eqP_st : wp (kEq' b δ (.fz (.str s)) (.fz (.tup ds)) st) Q X = optK (Rv.dat δ (.fz (.str s))) (hold (q := ⟨fun d => optK (Rv.dat δ (.fz (.tup ds))) (hold (q := ⟨fun e => guardK ((D.ok 64 d && D.ok 64 e) = true) (hold (q := ⟨fun _ => Q (.fz (.bl (xor b (deq d e)))) st⟩))⟩))⟩)) := wp_eqP rfl
@[simp ↓] theorem wp_eqP_sl : wp (kEq' b δ (.fz (.str s)) (.fz (.lst ds)) st) Q X = optK (Rv.dat δ (.fz (.str s))) (hold (q := ⟨fun d => optK (Rv.dat δ (.fz (.lst ds))) (hold (q := ⟨fun e => guardK ((D.ok 64 d && D.ok 64 e) = true) (hold (q := ⟨fun _ => Q (.fz (.bl (xor b (deq d e)))) st⟩))⟩))⟩)) := wp_eqP rfl
@[simp ↓] theorem wp_eqP_so : wp (kEq' b δ (.fz (.str s)) (.ow cc) st) Q X = optK (Rv.dat δ (.fz (.str s))) (hold (q := ⟨fun d => optK (Rv.dat δ (.ow cc)) (hold (q := ⟨fun e => guardK ((D.ok 64 d && D.ok 64 e) = true) (hold (q := ⟨fun _ => Q (.fz (.bl (xor b (deq d e)))) st⟩))⟩))⟩)) := wp_eqP rfl
@[simp ↓] theorem wp_eqP_sv : wp (kEq' b δ (.fz (.str s)) (.vw n) st) Q X = optK (Rv.dat δ (.fz (.str s))) (hold (q := ⟨fun d => optK (Rv.dat δ (.vw n)) (hold (q := ⟨fun e => guardK ((D.ok 64 d && D.ok 64 e) = true) (hold (q := ⟨fun _ => Q (.fz (.bl (xor b (deq d e)))) st⟩))⟩))⟩)) := wp_eqP rfl
end
end DL

/-! DM5: walks over encoded lists; a reading's value as an equation. -/
namespace DL
open PySem PySem.Spec PyProof.Rows L2 TL
set_option autoImplicit false
/-- the value of a reading that changes nothing -/
theorem eq_of_wp {α : Type} {o : Option (Res α × Sto)} {a : α} {st : Sto} (h : wp o (fun r st' => r = a ∧ st' = st) noX) : o = some (.ok a, st) := by
  obtain ⟨r, s, e, rfl, rfl⟩ := wp_of h
  exact e
theorem wp_app {α : Type} {o : Option (Res α × Sto)} {a : α} {st : Sto} {Q : α → Sto → Prop} {X : Exn → Sto → Prop} (e : o = some (.ok a, st)) : wp o Q X = Q a st := by rw [e]; rfl
theorem take_snoc {α : Type} {l : List α} {i : Nat} {x : α} (h : l[i]? = some x) : l.take (i + 1) = l.take i ++ [x] := by
  rw [List.take_add_one, h]; rfl
section
variable {β : Type} {enc : β → D} {t : GT} {body : GS} {R : Fl → Sto → Prop} {tt : DEnv → M Bool} {te : DEnv → M Rv} {X : Exn → Sto → Prop}
/-- after a turn -/
def turnL (I : DEnv → Sto → Prop) (R : Fl → Sto → Prop) : Fl → Sto → Prop
  | .nx δ, st => I δ st
  | .ct δ, st => I δ st
  | .bk δ, st => R (.nx δ) st
  | .rt r, st => R (.rt r) st
  | .ex x δ, st => R (.ex x δ) st
@[simp ↓] theorem turnL_nx {I : DEnv → Sto → Prop} {δ : DEnv} {st : Sto} : turnL I R (.nx δ) st = I δ st := (rfl)
@[simp ↓] theorem turnL_ct {I : DEnv → Sto → Prop} {δ : DEnv} {st : Sto} : turnL I R (.ct δ) st = I δ st := (rfl)
@[simp ↓] theorem turnL_bk {I : DEnv → Sto → Prop} {δ : DEnv} {st : Sto} : turnL I R (.bk δ) st = R (.nx δ) st := (rfl)
@[simp ↓] theorem turnL_rt {I : DEnv → Sto → Prop} {r : Rv} {st : Sto} : turnL I R (.rt r) st = R (.rt r) st := (rfl)
@[simp ↓] theorem turnL_ex {I : DEnv → Sto → Prop} {x : Exn} {δ : DEnv} {st : Sto} : turnL I R (.ex x δ) st = R (.ex x δ) st := (rfl)
/-- a walk over encoded items; pre: those already taken -/
theorem wpS_forL (I : List β → DEnv → Sto → Prop) (bs : List β) {δ : DEnv} {st : Sto} (h0 : I [] δ st)
    (hs : ∀ (pre : List β) (b : β) (post : List β) (δ : DEnv) (st : Sto), bs = pre ++ b :: post → I pre δ st → optK (t (enc b) δ) fun δ1 => wpS (body δ1 st) (turnL (I (pre ++ [b])) R))
    (he : ∀ δ st, I bs δ st → R (.nx δ) st) : wpS (forG t body (bs.map enc) δ st) R := by
  refine wpS_forG (fun k δ st => I (bs.take k) δ st) (bs.map enc) 0 h0 (fun i d δ st hd hI => ?_) (fun δ st hI => ?_)
  · rw [List.getElem?_map] at hd
    obtain ⟨b, hb, rfl⟩ := Option.map_eq_some_iff.mp hd
    rw [Nat.zero_add] at hI ⊢
    obtain ⟨hi, rfl⟩ := List.getElem?_eq_some_iff.mp hb
    have e : bs = bs.take i ++ bs[i] :: bs.drop (i + 1) := by
      rw [← List.drop_eq_getElem_cons hi, List.take_append_drop]
    have h1 := hs _ _ _ δ st e hI
    rw [take_snoc hb]
    cases q : t (enc bs[i]) δ with
    | none => rw [q] at h1; exact h1.elim
    | some δ1 =>
      rw [q] at h1
      refine wpS_mono h1 fun f st' hf => ?_
      cases f <;> exact hf
  · refine he δ st ?_
    rw [Nat.zero_add, List.length_map, List.take_length] at hI
    exact hI
/-- items behind those -/
theorem wpS_forA (I : List β → DEnv → Sto → Prop) : ∀ (bs pre0 : List β) (tail : List D) {δ : DEnv} {st : Sto}, I pre0 δ st →
    (∀ (pre : List β) (b : β) (post : List β) (δ : DEnv) (st : Sto), pre0 ++ bs = pre ++ b :: post → I pre δ st → optK (t (enc b) δ) fun δ1 => wpS (body δ1 st) (turnL (I (pre ++ [b])) R)) →
    (∀ δ st, I (pre0 ++ bs) δ st → wpS (forG t body tail δ st) R) → wpS (forG t body (bs.map enc ++ tail) δ st) R
  | [], pre0, tail, δ, st, h0, hs, he => he δ st (by rw [List.append_nil]; exact h0)
  | b :: bs, pre0, tail, δ, st, h0, hs, he => by
    have h1 := hs pre0 b bs δ st rfl h0
    rw [List.map_cons, List.cons_append]
    unfold forG
    cases q : t (enc b) δ with
    | none => rw [q] at h1; exact h1.elim
    | some δ1 =>
      rw [q] at h1
      dsimp only
      obtain ⟨f, st', e, q2⟩ := wpS_of h1
      rw [e]
      have next : ∀ δ' st', I (pre0 ++ [b]) δ' st' → wpS (forG t body (bs.map enc ++ tail) δ' st') R := fun δ' st' hI =>
        wpS_forA I bs (pre0 ++ [b]) tail hI (fun pre b' post δ st e hi => hs pre b' post δ st (by rw [← e]; simp) hi) (fun δ st hi => he δ st (by simpa using hi))
      cases f with
      | nx δ' => exact next δ' st' q2
      | ct δ' => exact next δ' st' q2
      | bk δ' => exact q2
      | rt r => exact q2
      | ex x δ' => exact q2
theorem wpS_for0 {δ : DEnv} {st : Sto} : wpS (forG t body [] δ st) R = R (.nx δ) st := rfl
theorem wpS_for1 {d : D} {ds : List D} {δ : DEnv} {st : Sto} (h : optK (t d δ) fun δ1 => wpS (body δ1 st) (turnL (fun δ st => wpS (forG t body ds δ st) R) R)) : wpS (forG t body (d :: ds) δ st) R := by
  unfold forG
  cases q : t d δ with
  | none => rw [q] at h; exact h.elim
  | some δ1 =>
    rw [q] at h
    dsimp only
    obtain ⟨f, st', e, q2⟩ := wpS_of h
    rw [e]
    cases f with
    | nx δ' => exact q2
    | ct δ' => exact q2
    | bk δ' => exact q2
    | rt r => exact q2
    | ex x δ' => exact q2
/-- a comprehension over encoded items; pre: those taken, acc: what is made of them -/
theorem wp_compL (I : List β → List D → Sto → Prop) (bs : List β) {δ : DEnv} {st : Sto} {Q : List D → Sto → Prop} (h0 : I [] [] st)
    (hs : ∀ (pre : List β) (b : β) (post : List β) (acc : List D) (st : Sto), bs = pre ++ b :: post → I pre acc st → optK (t (enc b) δ) fun δ1 => wp (tt δ1 st) (fun c st1 => iteK c (fun _ => wp (te δ1 st1) (fun r st2 => itemK r.frz fun y => guardK (acc.length < LIM) (fun _ => I (pre ++ [b]) (acc ++ [y]) st2)) noX) (fun _ => I (pre ++ [b]) acc st1)) noX)
    (he : ∀ acc st, I bs acc st → Q acc st) : wp (compG t tt te δ (bs.map enc) [] st) Q X := by
  refine wp_compG (fun k acc st => I (bs.take k) acc st) (bs.map enc) 0 [] h0 (fun i d acc st hd hI => ?_) (fun acc st hI => ?_)
  · rw [List.getElem?_map] at hd
    obtain ⟨b, hb, rfl⟩ := Option.map_eq_some_iff.mp hd
    rw [Nat.zero_add] at hI ⊢
    obtain ⟨hi, rfl⟩ := List.getElem?_eq_some_iff.mp hb
    have e : bs = bs.take i ++ bs[i] :: bs.drop (i + 1) := by
      rw [← List.drop_eq_getElem_cons hi, List.take_append_drop]
    rw [take_snoc hb]
    exact hs _ _ _ acc st e hI
  · refine he acc st ?_
    rw [Nat.zero_add, List.length_map, List.take_length] at hI
    exact hI
/-- each item by itself, some left out, nothing else changed -/
theorem wp_compF (p : β → Bool) (f : β → D) (bs : List β) {δ : DEnv} {st : Sto} {Q : List D → Sto → Prop} (hl : bs.length ≤ LIM)
    (hs : ∀ b ∈ bs, optK (t (enc b) δ) fun δ1 => wp (tt δ1 st) (fun c st1 => c = p b ∧ st1 = st ∧ (p b = true → wp (te δ1 st) (fun r st2 => r.frz = .fz (f b) ∧ st2 = st) noX)) noX) (he : Q ((bs.filter p).map f) st) : wp (compG t tt te δ (bs.map enc) [] st) Q X := by
  refine wp_compL (fun pre acc st' => st' = st ∧ acc = (pre.filter p).map f) bs ⟨rfl, rfl⟩ (fun pre b post acc st' e hI => ?_) (fun acc st' hI => ?_)
  · obtain ⟨rfl, rfl⟩ := hI
    have hm : b ∈ bs := by rw [e]; simp
    have h1 := hs b hm
    cases q : t (enc b) δ with
    | none => rw [q] at h1; exact h1.elim
    | some δ1 =>
      rw [q] at h1
      refine wp_mono0 (show wp (tt δ1 st') _ noX from h1) fun c st1 hc => ?_
      obtain ⟨rfl, rfl, hc⟩ := hc
      cases hp : p b with
      | false =>
        rw [iteK_f]
        exact ⟨rfl, by simp [hp]⟩
      | true =>
        rw [iteK_t]
        refine wp_mono0 (hc hp) fun r st2 hr => ?_
        obtain ⟨e2, rfl⟩ := hr
        rw [e2, itemK_f]
        have hlen : (pre.filter p).length ≤ pre.length := List.length_filter_le ..
        have hpl : pre.length < bs.length := by rw [e, List.length_append, List.length_cons]; omega
        refine guard_i ?_ (And.intro rfl ?_)
        · rw [List.length_map]
          exact Nat.lt_of_lt_of_le (Nat.lt_of_le_of_lt hlen hpl) hl
        · simp [hp]
  · obtain ⟨rfl, rfl⟩ := hI
    exact he
/-- each item by itself -/
theorem wp_compE (f : β → D) (bs : List β) {δ : DEnv} {st : Sto} {Q : List D → Sto → Prop} (hl : bs.length ≤ LIM)
    (hs : ∀ b ∈ bs, optK (t (enc b) δ) fun δ1 => wp (tt δ1 st) (fun c st1 => c = true ∧ st1 = st ∧ wp (te δ1 st) (fun r st2 => r.frz = .fz (f b) ∧ st2 = st) noX) noX) (he : Q (bs.map f) st) : wp (compG t tt te δ (bs.map enc) [] st) Q X := by
  refine wp_compF (fun _ => true) f bs hl (fun b hb => ?_) (by rw [List.filter_eq_self.mpr (fun _ _ => rfl)]; exact he)
  have h1 := hs b hb
  cases q : t (enc b) δ with
  | none => rw [q] at h1; exact h1.elim
  | some δ1 =>
    rw [q] at h1
    exact wp_mono0 (show wp (tt δ1 st) _ noX from h1) fun c st1 hc => ⟨hc.1, hc.2.1, fun _ => hc.2.2⟩
end
theorem rev_ind {α : Type} {P : List α → Prop} (h0 : P []) (hs : ∀ l a, P l → P (l ++ [a])) (l : List α) : P l := by
  have key : ∀ m : List α, P m.reverse := fun m => by
    induction m with
    | nil => exact h0
    | cons a m ih => rw [List.reverse_cons]; exact hs _ _ ih
  have := key l.reverse
  rwa [List.reverse_reverse] at this
section
variable {α : Type} {l : List α} {a b : α}
theorem ixN_m1 {n : Nat} (h : 0 < n) : ixN n (-1) = some (n - 1) := by
  unfold ixN
  rw [if_neg (by omega), if_pos (by omega)]
  congr 1
  omega
@[simp] theorem atI_m1 : atI (l ++ [a]) (-1) = some a := by
  unfold atI
  rw [ixN_m1 (by simp)]
  simp
theorem setIx_m1 {ds : List D} {d e : D} : setIx (ds ++ [d]) (-1) e = some (ds ++ [e]) := by
  unfold setIx
  rw [ixN_m1 (by simp)]
  simp
theorem sIx_none {n d : Nat} : HT.sIx n d none = d := rfl
@[simp] theorem cutQ_all : cutQ l none none = l := by
  unfold cutQ
  simp [sIx_none]
end
end DL

/-! DM6: more readings evaluated. -/
namespace DL
open PySem PySem.Spec PyProof.Rows L2 TL
set_option autoImplicit false
@[simp] theorem guardK_of {p : Prop} {A : Unit → Prop} (h : p) : guardK p A = A () := propext ⟨fun z => z.2, fun z => ⟨h, z⟩⟩
@[simp] theorem iteK_dt {p : Prop} [Decidable p] {A B : Unit → Prop} (h : p) : iteK (decide p) A B = A () := by rw [decide_eq_true h]; rfl
@[simp] theorem iteK_df {p : Prop} [Decidable p] {A B : Unit → Prop} (h : ¬ p) : iteK (decide p) A B = B () := by rw [decide_eq_false h]; rfl
@[simp] theorem iteK_not {c : Bool} {A B : Unit → Prop} : iteK (!c) A B = iteK c B A := by cases c <;> rfl
@[simp] theorem isAq_NoneType_bool : isA "NoneType" "bool" = false := by decide
@[simp] theorem isAq_NoneType_int : isA "NoneType" "int" = false := by decide
@[simp] theorem isAq_NoneType_str : isA "NoneType" "str" = false := by decide
@[simp] theorem isAq_NoneType_tuple : isA "NoneType" "tuple" = false := by decide
@[simp] theorem isAq_NoneType_list : isA "NoneType" "list" = false := by decide
@[simp] theorem isAq_NoneType_dict : isA "NoneType" "dict" = false := by decide
@[simp] theorem isAq_bool_bool : isA "bool" "bool" = true := by decide
@[simp] theorem isAq_bool_int : isA "bool" "int" = true := by decide
@[simp] theorem isAq_bool_str : isA "bool" "str" = false := by decide
@[simp] theorem isAq_bool_tuple : isA "bool" "tuple" = false := by decide
@[simp] theorem isAq_bool_list : isA "bool" "list" = false := by decide
@[simp] theorem isAq_bool_dict : isA "bool" "dict" = false := by decide
@[simp] theorem isAq_int_bool : isA "int" "bool" = false := by decide
@[simp] theorem isAq_int_int : isA "int" "int" = true := by decide
@[simp] theorem isAq_int_str : isA "int" "str" = false := by decide
@[simp] theorem isAq_int_tuple : isA "int" "tuple" = false := by decide
@[simp] theorem isAq_int_list : isA "int" "list" = false := by decide
@[simp] theorem isAq_int_dict : isA "int" "dict" = false := by decide
@[simp] theorem isAq_str_bool : isA "str" "bool" = false := by decide
@[simp] theorem isAq_str_int : isA "str" "int" = false := by decide
@[simp] theorem isAq_str_str : isA "str" "str" = true := by decide
@[simp] theorem isAq_str_tuple : isA "str" "tuple" = false := by decide
@[simp] theorem isAq_str_list : isA "str" "list" = false := by decide
@[simp] theorem isAq_str_dict : isA "str" "dict" = false := by decide
@[simp] theorem isAq_tuple_bool : isA "tuple" "bool" = false := by decide
@[simp] theorem isAq_tuple_int : isA "tuple" "int" = false := by decide
@[simp] theorem isAq_tuple_str : isA "tuple" "str" = false := by decide
@[simp] theorem isAq_tuple_tuple : isA "tuple" "tuple" = true := by decide
@[simp] theorem isAq_tuple_list : isA "tuple" "list" = false := by decide
@[simp] theorem isAq_tuple_dict : isA "tuple" "dict" = false := by decide
@[simp] theorem isAq_list_bool : isA "list" "bool" = false := by decide
@[simp] theorem isAq_list_int : isA "list" "int" = false := by decide
@[simp] theorem isAq_list_str : isA "list" "str" = false := by decide
@[simp] theorem isAq_list_tuple : isA "list" "tuple" = false := by decide
@[simp] theorem isAq_list_list : isA "list" "list" = true := by decide
@[simp] theorem isAq_list_dict : isA "list" "dict" = false := by decide
@[simp] theorem isAq_dict_bool : isA "dict" "bool" = false := by decide
@[simp] theorem isAq_dict_int : isA "dict" "int" = false := by decide
@[simp] theorem isAq_dict_str : isA "dict" "str" = false := by decide
@[simp] theorem isAq_dict_tuple : isA "dict" "tuple" = false := by decide
@[simp] theorem isAq_dict_list : isA "dict" "list" = false := by decide
@[simp] theorem isAq_dict_dict : isA "dict" "dict" = true := by decide
section
variable {δ : DEnv} {st : Sto} {i j : Int} {b : Bool} {s t : List Nat} {x y : Rv} {ds es : List D} {d e : D} {n m : Nat} {c : Con} {X : Exn → Sto → Prop} {Q : Rv → Sto → Prop} {R : List D → Prop}
@[simp ↓] theorem fAppend_g : optK (fAppend ds [d]) R = guardK (ds.length < LIM) (hold (q := ⟨fun _ => R (ds ++ [d])⟩)) := by
  show optK (if ds.length < LIM then some (ds ++ [d]) else none) R = _
  unfold guardK
  split
  · rename_i h; exact propext ⟨fun z => ⟨h, z⟩, fun z => z.2⟩
  · rename_i h; exact propext ⟨fun z => False.elim z, fun z => absurd z.1 h⟩
@[simp ↓] theorem wp_tuple_t : wp (kTuple δ [.fz (.tup ds)] st) Q X = Q (.fz (.tup ds)) st := (rfl)
@[simp ↓] theorem wp_tuple_l : wp (kTuple δ [.fz (.lst ds)] st) Q X = Q (.fz (.tup ds)) st := (rfl)
@[simp ↓] theorem wp_tuple_r : wp (kTuple δ [.fz (.rol ds)] st) Q X = Q (.fz (.tup ds)) st := (rfl)
@[simp ↓] theorem wp_tuple_o : wp (kTuple δ [.ow (.lst ds)] st) Q X = Q (.fz (.tup ds)) st := (rfl)
@[simp ↓] theorem wp_tuple_v : wp (kTuple δ [.vw n] st) Q X = optK (ownL δ n) (hold (q := ⟨fun ds => Q (.fz (.tup ds)) st⟩)) := by
  show wp (opt (Rv.asR δ st (.vw n)) (fun ds => ret (.fz (.tup ds))) st) Q X = _
  rw [wp_opt0, asR_v']; rfl
@[simp ↓] theorem wp_tuple_c : wp (kTuple δ [.fz (.loc n)] st) Q X = optK (Rv.asQ δ st (.fz (.loc n))) (hold (q := ⟨fun ds => Q (.fz (.tup ds)) st⟩)) := by
  show wp (opt (Rv.asR δ st (.fz (.loc n))) (fun ds => ret (.fz (.tup ds))) st) Q X = _
  rw [wp_opt0]; rfl
@[simp] theorem frz_vw : (Rv.vw n).frz = .vw n := (rfl)
theorem wp_g {p : Prop} [Decidable p] {f : M Rv} {Q : Rv → Sto → Prop} : wp ((if p then f else fail) st) Q X = guardK p (hold (q := ⟨fun _ => wp (f st) Q X⟩)) := by
  unfold guardK
  split
  · rename_i h; exact propext ⟨fun z => ⟨h, z⟩, fun z => z.2⟩
  · rename_i h; exact propext ⟨fun z => False.elim z, fun z => absurd z.1 h⟩
@[simp ↓ low] theorem wp_kAdd_sg : wp (kAdd δ (.fz (.str s)) (.fz (.str t)) st) Q X = guardK (s.length + t.length ≤ LIM) (hold (q := ⟨fun _ => Q (.fz (.str (s ++ t))) st⟩)) := wp_g
@[simp ↓] theorem wp_kAdd_tg : wp (kAdd δ (.fz (.tup ds)) (.fz (.tup es)) st) Q X = guardK (ds.length + es.length ≤ LIM) (hold (q := ⟨fun _ => Q (.fz (.tup (ds ++ es))) st⟩)) := wp_g
theorem wp_kAdd_L {x y : Rv} {xs ys : List D} (hx : x.asL δ st = some xs) (hy : y.asL δ st = some ys) (h : (isII δ x y || isSS δ x y) = false) (h2 : isTT δ x y = false) : wp (kAdd δ x y st) Q X = guardK (xs.length + ys.length ≤ LIM) (hold (q := ⟨fun _ => Q (.ow (.lst (xs ++ ys))) st⟩)) := by
  rw [Bool.or_eq_false_iff] at h
  unfold kAdd kOr
  rw [h.1, h.2, h2]
  show wp (kAddL δ x y st) Q X = _
  unfold kAddL
  rw [hx, hy]
  exact wp_g
@[simp ↓] theorem wp_kAdd_oo : wp (kAdd δ (.ow (.lst ds)) (.ow (.lst es)) st) Q X = guardK (ds.length + es.length ≤ LIM) (hold (q := ⟨fun _ => Q (.ow (.lst (ds ++ es))) st⟩)) := wp_g
@[simp ↓] theorem wp_kAdd_ol : wp (kAdd δ (.ow (.lst ds)) (.fz (.lst es)) st) Q X = guardK (ds.length + es.length ≤ LIM) (hold (q := ⟨fun _ => Q (.ow (.lst (ds ++ es))) st⟩)) := wp_g
@[simp ↓] theorem wp_kAdd_lo : wp (kAdd δ (.fz (.lst ds)) (.ow (.lst es)) st) Q X = guardK (ds.length + es.length ≤ LIM) (hold (q := ⟨fun _ => Q (.ow (.lst (ds ++ es))) st⟩)) := wp_g
@[simp ↓] theorem wp_kAdd_ll : wp (kAdd δ (.fz (.lst ds)) (.fz (.lst es)) st) Q X = guardK (ds.length + es.length ≤ LIM) (hold (q := ⟨fun _ => Q (.ow (.lst (ds ++ es))) st⟩)) := wp_g
theorem asL_vw : Rv.asL δ st (.vw n) = ownL δ n := by
  unfold Rv.asL Rv.con ownL
  rfl
theorem wp_kAdd_Lx {x y : Rv} (h : (isII δ x y || isSS δ x y) = false) (h2 : isTT δ x y = false) : wp (kAdd δ x y st) Q X = optK (x.asL δ st) (hold (q := ⟨fun xs => optK (y.asL δ st) (hold (q := ⟨fun ys => guardK (xs.length + ys.length ≤ LIM) (hold (q := ⟨fun _ => Q (.ow (.lst (xs ++ ys))) st⟩))⟩))⟩)) := by
  rw [Bool.or_eq_false_iff] at h
  unfold kAdd kOr
  rw [h.1, h.2, h2]
  show wp (kAddL δ x y st) Q X = _
  unfold kAddL
  rw [wp_opt0]
  refine optK_cg fun xs => ?_
  try simp only [hold_1, hold_2]
  rw [wp_opt0]
  refine optK_cg fun ys => ?_
  exact wp_g
@[simp ↓] theorem wp_kAdd_vo : wp (kAdd δ (.vw n) (.ow (.lst es)) st) Q X = optK (ownL δ n) (hold (q := ⟨fun ds => guardK (ds.length + es.length ≤ LIM) (hold (q := ⟨fun _ => Q (.ow (.lst (ds ++ es))) st⟩))⟩)) := by
  rw [wp_kAdd_Lx rfl rfl, asL_vw]; rfl
@[simp ↓] theorem wp_kAdd_vl : wp (kAdd δ (.vw n) (.fz (.lst es)) st) Q X = optK (ownL δ n) (hold (q := ⟨fun ds => guardK (ds.length + es.length ≤ LIM) (hold (q := ⟨fun _ => Q (.ow (.lst (ds ++ es))) st⟩))⟩)) := by
  rw [wp_kAdd_Lx rfl rfl, asL_vw]; rfl
@[simp ↓] theorem wp_kAdd_lv : wp (kAdd δ (.fz (.lst ds)) (.vw n) st) Q X = optK (ownL δ n) (hold (q := ⟨fun es => guardK (ds.length + es.length ≤ LIM) (hold (q := ⟨fun _ => Q (.ow (.lst (ds ++ es))) st⟩))⟩)) := by
  rw [wp_kAdd_Lx rfl rfl, asL_vw]; rfl
@[simp ↓] theorem wp_kAdd_ov : wp (kAdd δ (.ow (.lst ds)) (.vw n) st) Q X = optK (ownL δ n) (hold (q := ⟨fun es => guardK (ds.length + es.length ≤ LIM) (hold (q := ⟨fun _ => Q (.ow (.lst (ds ++ es))) st⟩))⟩)) := by
  rw [wp_kAdd_Lx rfl rfl, asL_vw]; rfl
@[simp ↓ low] theorem wp_kMul_ig : wp (kMul δ (.fz (.int i)) (.fz (.int j)) st) Q X = guardK (mulOk i j = true) (hold (q := ⟨fun _ => Q (.fz (.int (i * j))) st⟩)) := wp_g
@[simp ↓] theorem wp_kMul_og : wp (kMul δ (.ow (.lst ds)) (.fz (.int j)) st) Q X = guardK (-(2 ^ 63) ≤ j ∧ j < 2 ^ 63 ∧ ds.length * j.toNat ≤ LIM) (hold (q := ⟨fun _ => Q (.ow (.lst (List.replicate j.toNat ds).flatten)) st⟩)) := wp_g
@[simp ↓] theorem wp_kMul_lg : wp (kMul δ (.fz (.lst ds)) (.fz (.int j)) st) Q X = guardK (-(2 ^ 63) ≤ j ∧ j < 2 ^ 63 ∧ ds.length * j.toNat ≤ LIM) (hold (q := ⟨fun _ => Q (.ow (.lst (List.replicate j.toNat ds).flatten)) st⟩)) := wp_g
@[simp ↓] theorem wp_kMul_tg : wp (kMul δ (.fz (.tup ds)) (.fz (.int j)) st) Q X = guardK (ds ≠ [] ∧ 2 ≤ j ∧ j ≤ 1000 ∧ ds.length ≤ 1000) (hold (q := ⟨fun _ => Q (.fz (.tup (List.replicate j.toNat ds).flatten)) st⟩)) := wp_g
@[simp ↓ low] theorem wp_kMod_ig : wp (kMod δ (.fz (.int i)) (.fz (.int j)) st) Q X = guardK (0 < j) (hold (q := ⟨fun _ => Q (.fz (.int (i % j))) st⟩)) := wp_g
@[simp ↓ low] theorem wp_kDiv_ig : wp (kDiv δ (.fz (.int i)) (.fz (.int j)) st) Q X = guardK (divOk j = true) (hold (q := ⟨fun _ => Q (.fz (.int (i / j))) st⟩)) := wp_g
@[simp ↓ low] theorem wp_kIx_sg : wp (kIx δ (.fz (.str s)) (.fz (.int i)) st) Q X = guardK (s.length ≤ LIM) (hold (q := ⟨fun _ => optK (atI s i) (hold (q := ⟨fun c => Q (.fz (.str [c])) st⟩))⟩)) := by
  have e : wp (kIx δ (.fz (.str s)) (.fz (.int i)) st) Q X = wp ((if s.length ≤ LIM then (opt (atI s i) fun c => rsv [c]) else fail) st) Q X := rfl
  rw [e, wp_g]
  unfold guardK
  simp only [hold_1, hold_2]
  rw [wp_opt0]
  rfl
@[simp ↓ low] theorem wp_len_sg : wp (kLen δ [.fz (.str s)] st) Q X = guardK (s.length ≤ LIM) (hold (q := ⟨fun _ => Q (.fz (.int s.length)) st⟩)) := wp_g
@[simp ↓] theorem wp_len_o : wp (kLen δ [.ow (.lst ds)] st) Q X = Q (.fz (.int ds.length)) st := (rfl)
@[simp ↓ low] theorem wp_sl_sg {lo hi : Option Int} : wp (kSl δ (.fz (.str s)) lo hi st) Q X = guardK (s.length ≤ LIM) (hold (q := ⟨fun _ => Q (.fz (.str (cutQ s lo hi))) st⟩)) :=
  wp_g (p := s.length ≤ LIM) (f := rsv (cutQ s lo hi))
@[simp ↓] theorem wp_sl_v {lo hi : Option Int} : wp (kSl δ (.vw n) lo hi st) Q X = optK (ownL δ n) (hold (q := ⟨fun ds => Q (.ow (.lst (cutQ ds lo hi))) st⟩)) := by
  show wp (opt (Rv.asR δ st (.vw n)) (fun ds => ret (.ow (.lst (cutQ ds lo hi)))) st) Q X = _
  rw [wp_opt0, asR_v']; rfl
@[simp ↓] theorem wp_sl_o {lo hi : Option Int} : wp (kSl δ (.ow (.lst ds)) lo hi st) Q X = Q (.ow (.lst (cutQ ds lo hi))) st := (rfl)
@[simp ↓ low] theorem wp_listA_sg : wp (kListA δ [.fz (.str s)] st) Q X = guardK (s.length ≤ LIM) (hold (q := ⟨fun _ => Q (.ow (.lst (chrD s))) st⟩)) :=
  wp_g (p := s.length ≤ LIM) (f := ret (.ow (.lst (chrD s))))
@[simp ↓] theorem wp_int_b : wp (kInt δ [.fz (.bl b)] st) Q X = Q (.fz (.int (if b then 1 else 0))) st := (rfl)
@[simp ↓] theorem wp_int_i : wp (kInt δ [.fz (.int i)] st) Q X = Q (.fz (.int i)) st := (rfl)
end
end DL

/-! DI: rows of items. -/
namespace DL
open PySem PySem.Spec PyProof.Rows L2 TL
set_option autoImplicit false
/-! rows -/
inductive It where
  | n (i : Int) | s (t : List Nat)
  deriving DecidableEq
def It.d : It → D
  | .n i => .int i
  | .s t => .str t
@[simp] theorem d_n {i : Int} : It.d (.n i) = .int i := rfl
@[simp] theorem d_s {t : List Nat} : It.d (.s t) = .str t := rfl
def It.size : It → Nat
  | .n _ => 0
  | .s t => t.length
def It.isS : It → Bool
  | .n _ => false
  | .s _ => true
@[simp] theorem size_n {i : Int} : It.size (.n i) = 0 := rfl
@[simp] theorem size_s {t : List Nat} : It.size (.s t) = t.length := rfl
@[simp] theorem isS_n {i : Int} : It.isS (.n i) = false := rfl
@[simp] theorem isS_s {t : List Nat} : It.isS (.s t) = true := rfl
def lets (r : List It) : Nat := (r.map It.size).sum
def It.fine : It → Bool
  | .n _ => true
  | .s t => t.all fun c => decide (c < 1114112)
@[simp] theorem fine_n {i : Int} : It.fine (.n i) = true := rfl
@[simp] theorem fine_s {t : List Nat} : It.fine (.s t) = t.all fun c => decide (c < 1114112) := rfl
@[simp] theorem lets_nil : lets [] = 0 := rfl
@[simp] theorem lets_app (a b : List It) : lets (a ++ b) = lets a + lets b := by simp [lets]
@[simp] theorem lets_n {i : Int} : lets [.n i] = 0 := rfl
@[simp] theorem lets_s {t : List Nat} : lets [.s t] = t.length := by simp [lets, It.size]
theorem lets_cons (x : It) (r : List It) : lets (x :: r) = x.size + lets r := by simp [lets]
def nstep (acc : List It) : It → List It
  | .n i => acc ++ [.n i]
  | .s t => match acc.getLast? with
    | some (.s u) => acc.dropLast ++ [.s (u ++ t)]
    | _ => if t = [] then acc else acc ++ [.s t]
def norm (r : List It) : List It := r.foldl nstep []
theorem norm_snoc (r : List It) (x : It) : norm (r ++ [x]) = nstep (norm r) x := by simp [norm]
theorem nstep_lets (acc : List It) (x : It) : lets (nstep acc x) = lets acc + x.size := by
  cases x with
  | n i => simp [nstep, It.size]
  | s t =>
    rcases List.eq_nil_or_concat acc with rfl | ⟨l, a, rfl⟩
    · by_cases h : t = []
      · simp [nstep, h, It.size]
      · simp [nstep, h, It.size]
    · cases a with
      | n i =>
        by_cases h : t = []
        · simp [nstep, h, It.size]
        · simp [nstep, h, It.size, lets_cons]
      | s u => simp [nstep, It.size]; omega
theorem norm_lets (r : List It) : lets (norm r) = lets r := by
  induction r using rev_ind with
  | h0 => rfl
  | hs r x ih => rw [norm_snoc, nstep_lets, ih, lets_app]; cases x <;> simp [It.size]
theorem nstep_length (acc : List It) (x : It) : (nstep acc x).length ≤ acc.length + 1 := by
  cases x with
  | n i => simp [nstep]
  | s t =>
    rcases List.eq_nil_or_concat acc with rfl | ⟨l, a, rfl⟩
    · by_cases h : t = [] <;> simp [nstep, h]
    · cases a with
      | n i => by_cases h : t = [] <;> simp [nstep, h]
      | s u => simp [nstep]
theorem norm_length (r : List It) : (norm r).length ≤ r.length := by
  induction r using rev_ind with
  | h0 => simp [norm]
  | hs r x ih =>
    rw [norm_snoc]
    have := nstep_length (norm r) x
    simp; omega
theorem nstep_fine {acc : List It} {x : It} (h : acc.all It.fine = true) (hx : x.fine = true) : (nstep acc x).all It.fine = true := by
  cases x with
  | n i => simp [nstep, It.fine] at *; exact h
  | s t =>
    rcases List.eq_nil_or_concat acc with rfl | ⟨l, a, rfl⟩
    · by_cases z : t = [] <;> simp [nstep, z]
      simpa using hx
    · cases a with
      | n i => by_cases z : t = [] <;> simp [nstep, z] <;> simp at h <;> simp_all
      | s u => simp [nstep, It.fine] at *; simp_all
theorem norm_fine {r : List It} (h : r.all It.fine = true) : (norm r).all It.fine = true := by
  induction r using rev_ind with
  | h0 => rfl
  | hs r x ih =>
    rw [norm_snoc]
    simp only [List.all_append, Bool.and_eq_true, List.all_cons, List.all_nil, and_true] at h
    exact nstep_fine (ih h.1) h.2
theorem okd_row {r : List It} {n : Nat} (h : r.all It.fine = true) : (r.map It.d).all (D.ok n) = true := by
  rw [List.all_map]
  refine List.all_eq_true.mpr fun x hx => ?_
  have := List.all_eq_true.mp h x hx
  cases x <;> simpa [It.fine] using this

theorem size_le {x : It} : ∀ {r : List It}, x ∈ r → x.size ≤ lets r
  | y :: r, h => by
    rw [lets_cons]
    rcases List.mem_cons.mp h with rfl | h
    · omega
    · have := size_le h
      omega
theorem lets_sum : ∀ l : List It, ((l.filter It.isS).map fun b => (b.size : Int)).sum = (lets l : Int)
  | [] => rfl
  | .n i :: l => by rw [List.filter_cons_of_neg (by simp), lets_sum l, lets_cons]; simp
  | .s t :: l => by rw [List.filter_cons_of_pos (by simp), List.map_cons, List.sum_cons, lets_sum l, lets_cons]; simp
def strips (r : List It) : List It := r.filter fun x => !x.isS
/-- a word, if it is not empty -/
def hs (h : List Nat) : List It := if h = [] then [] else [.s h]
@[simp] theorem hs_nil : hs [] = [] := rfl
/-- rows by a held word -/
def pst (p : List It × List Nat) : It → List It × List Nat
  | .s t => (p.1, p.2 ++ t)
  | .n i => (p.1 ++ hs p.2 ++ [.n i], [])
@[simp] theorem pst_s {p : List It × List Nat} {t : List Nat} : pst p (.s t) = (p.1, p.2 ++ t) := rfl
@[simp] theorem pst_n {p : List It × List Nat} {i : Int} : pst p (.n i) = (p.1 ++ hs p.2 ++ [.n i], []) := rfl
def plain2 (r : List It) : List It × List Nat := r.foldl pst ([], [])
theorem plain2_snoc (r : List It) (x : It) : plain2 (r ++ [x]) = pst (plain2 r) x := by simp [plain2]
/-- the items that are no words, and the words' lets, stay -/
theorem norm_plain (r : List It) : norm r = (plain2 r).1 ++ hs (plain2 r).2 ∧ ∀ u, (plain2 r).1.getLast? ≠ some (.s u) := by
  induction r using rev_ind with
  | h0 => exact ⟨rfl, fun u h => by cases h⟩
  | hs r x ih =>
    obtain ⟨ih, hl⟩ := ih
    rw [norm_snoc, plain2_snoc, ih]
    cases x with
    | n i => simp [nstep]
    | s t =>
      refine ⟨?_, hl⟩
      rw [pst_s]
      by_cases hh : (plain2 r).2 = []
      · rw [hh]
        simp only [hs_nil, List.append_nil, List.nil_append]
        rcases List.eq_nil_or_concat (plain2 r).1 with e | ⟨l, a, e⟩
        · rw [e]
          by_cases ht : t = [] <;> simp [nstep, hs, ht]
        · cases a with
          | n i =>
            rw [e]
            by_cases ht : t = [] <;> simp [nstep, hs, ht]
          | s u =>
            refine absurd ?_ (hl u)
            rw [e]
            simp
      · simp [hs, hh, nstep]
theorem strips_app (a b : List It) : strips (a ++ b) = strips a ++ strips b := by simp [strips]
theorem strips_nstep (acc : List It) (x : It) : strips (nstep acc x) = strips acc ++ strips [x] := by
  cases x with
  | n i => simp [nstep, strips]
  | s t =>
    rcases List.eq_nil_or_concat acc with rfl | ⟨l, a, rfl⟩
    · by_cases h : t = [] <;> simp [nstep, h, strips]
    · cases a with
      | n i => by_cases h : t = [] <;> simp [nstep, h, strips]
      | s u => simp [nstep, strips]
theorem strips_norm (r : List It) : strips (norm r) = strips r := by
  induction r using rev_ind with
  | h0 => rfl
  | hs r x ih => rw [norm_snoc, strips_nstep, ih, ← strips_app]
/-- normal: no empty word, no two words side by side -/
def Normal : List It → Prop
  | [] => True
  | [x] => x ≠ .s []
  | x :: y :: r => x ≠ .s [] ∧ (x.isS && y.isS) = false ∧ Normal (y :: r)
theorem normal_snoc : ∀ {l : List It} {x : It}, Normal l → x ≠ .s [] → (∀ a, l.getLast? = some a → (a.isS && x.isS) = false) → Normal (l ++ [x])
  | [], x, _, h, _ => h
  | [y], x, h1, h, h2 => ⟨h1, h2 y rfl, h⟩
  | y :: z :: l, x, h1, h, h2 => ⟨h1.1, h1.2.1, normal_snoc (l := z :: l) h1.2.2 h fun a ha => h2 a (by simpa using ha)⟩
theorem normal_last : ∀ {l : List It} {x y : It}, Normal (l ++ [x]) → y ≠ .s [] → y.isS = x.isS → Normal (l ++ [y])
  | [], x, y, _, h, _ => h
  | [z], x, y, h1, h, h2 => ⟨h1.1, by rw [h2]; exact h1.2.1, h⟩
  | w :: z :: l, x, y, h1, h, h2 => ⟨h1.1, h1.2.1, normal_last (l := z :: l) h1.2.2 h h2⟩
theorem normal_nstep {acc : List It} {x : It} (h : Normal acc) : Normal (nstep acc x) := by
  cases x with
  | n i => exact normal_snoc h (by simp) fun a _ => by simp
  | s t =>
    rcases List.eq_nil_or_concat acc with rfl | ⟨l, a, rfl⟩
    · by_cases z : t = []
      · simp [nstep, z]; trivial
      · simp [nstep, z]; simpa [Normal] using z
    · rw [List.concat_eq_append] at h ⊢
      cases a with
      | n i =>
        by_cases z : t = []
        · simpa [nstep, z] using h
        · have := normal_snoc (x := .s t) h (by simpa using z) fun a ha => by simp at ha; subst ha; simp
          simpa [nstep, z] using this
      | s u =>
        have hu : u ≠ [] := by
          have key : ∀ l : List It, Normal (l ++ [It.s u]) → u ≠ [] := fun l => by
            induction l with
            | nil => exact fun h => by simpa [Normal] using h
            | cons y l ih =>
              intro h
              cases l with
              | nil => simpa [Normal] using h.2.2
              | cons z l => exact ih h.2.2
          exact key l h
        have := normal_last (y := .s (u ++ t)) h (by simp [hu]) (by simp)
        simpa [nstep] using this
theorem norm_normal (r : List It) : Normal (norm r) := by
  induction r using rev_ind with
  | h0 => trivial
  | hs r x ih => rw [norm_snoc]; exact normal_nstep ih
theorem norm_fix_aux : ∀ (r acc : List It), Normal (acc ++ r) → r.foldl nstep acc = acc ++ r
  | [], acc, _ => by simp
  | x :: r, acc, h => by
    have e : nstep acc x = acc ++ [x] := by
      cases x with
      | n i => rfl
      | s t =>
        have key : ∀ (l : List It) (a : It) (m : List It), Normal (l ++ a :: .s t :: m) → a.isS = false ∧ t ≠ [] := by
          intro l
          induction l with
          | nil =>
            intro a m h
            refine ⟨by simpa using h.2.1, ?_⟩
            have h3 := h.2.2
            cases m with
            | nil => simpa [Normal] using h3
            | cons y m => simpa using h3.1
          | cons y l ih =>
            intro a m h
            cases l with
            | nil => exact ih a m h.2.2
            | cons z l => exact ih a m h.2.2
        rcases List.eq_nil_or_concat acc with rfl | ⟨l, a, rfl⟩
        · have : t ≠ [] := by
            cases r with
            | nil => simpa [Normal] using h
            | cons y r => simpa using h.1
          simp [nstep, this]
        · have := key l a r (by simpa using h)
          cases a with
          | n i => simp [nstep, this.2]
          | s u => simp at this
    rw [List.foldl_cons, e, norm_fix_aux r (acc ++ [x]) (by simpa using h)]
    simp
theorem norm_fix {r : List It} (h : Normal r) : norm r = r := by
  have := norm_fix_aux r [] (by simpa using h)
  simpa [norm] using this
end DL

/-! DM7: readings of DL17, DL18 evaluated. -/
namespace DL
open PySem PySem.Spec PyProof.Rows L2 TL
set_option autoImplicit false
/-- what a loop keeps: the state, and the slots but some -/
def Inv1 (st0 : Sto) (f : Option SV → DEnv) (δ : DEnv) (st : Sto) : Prop := st = st0 ∧ ∃ a, δ = f a
def Inv2 (st0 : Sto) (f : Option SV → Option SV → DEnv) (δ : DEnv) (st : Sto) : Prop := st = st0 ∧ ∃ a b, δ = f a b
def Inv3 (st0 : Sto) (f : Option SV → Option SV → Option SV → DEnv) (δ : DEnv) (st : Sto) : Prop := st = st0 ∧ ∃ a b c, δ = f a b c
def Inv4 (st0 : Sto) (f : Option SV → Option SV → Option SV → Option SV → DEnv) (δ : DEnv) (st : Sto) : Prop := st = st0 ∧ ∃ a b c d, δ = f a b c d
section
variable {δ δ' : DEnv} {st : Sto} {i j : Int} {b : Bool} {s t : List Nat} {x y : Rv} {ds es : List D} {d e : D} {n m : Nat} {c : Con} {X : Exn → Sto → Prop} {Q : Rv → Sto → Prop} {QI : List D → Sto → Prop} {R : Fl → Sto → Prop} {ga gb : DEnv → M Rv} {ps : List (Nat × (DEnv → M Rv))}
@[simp ↓] theorem wpS_many : wpS (sMany ps δ st) R = wpS (sManyK δ ps δ st) R := (rfl)
@[simp ↓] theorem wpS_manyN : wpS (sManyK δ [] δ' st) R = R (.nx δ') st := (rfl)
@[simp ↓] theorem wpS_manyC : wpS (sManyK δ ((n, ga) :: ps) δ' st) R = wp (ga δ st) (hold (q := ⟨fun r st1 => setK n r δ' (hold (q := ⟨fun δ'' => wpS (sManyK δ ps δ'' st1) R⟩))⟩)) (hold (q := ⟨fun x st1 => R (.ex x δ) st1⟩)) := by
  show wpS (sBnd (ga δ) δ (fun x st => match setR n x δ' with
    | some δ'' => sManyK δ ps δ'' st
    | none => none) st) R = _
  rw [wpS_bnd0]
  refine wp_cg fun r st1 => ?_
  try simp only [hold_1, hold_2]
  cases r <;> rfl
@[simp ↓] theorem fExtend_g {Z : List D → Prop} : optK (fExtend ds [.lst es]) Z = guardK (ds.length + es.length ≤ LIM) (hold (q := ⟨fun _ => Z (ds ++ es)⟩)) := by
  show optK (if ds.length + es.length ≤ LIM then some (ds ++ es) else none) Z = _
  unfold guardK
  split
  · rename_i h; exact propext ⟨fun z => ⟨h, z⟩, fun z => z.2⟩
  · rename_i h; exact propext ⟨fun z => False.elim z, fun z => absurd z.1 h⟩
@[simp ↓] theorem fInsert_g {Z : List D → Prop} : optK (fInsert ds [.int i, d]) Z = guardK (ds.length < LIM ∧ 0 ≤ i ∧ i < 2 ^ 63) (hold (q := ⟨fun _ => Z (ds.take i.toNat ++ [d] ++ ds.drop i.toNat)⟩)) := by
  show optK (if ds.length < LIM ∧ 0 ≤ i ∧ i < 2 ^ 63 then some (ds.take i.toNat ++ [d] ++ ds.drop i.toNat) else none) Z = _
  unfold guardK
  split
  · rename_i h; exact propext ⟨fun z => ⟨h, z⟩, fun z => z.2⟩
  · rename_i h; exact propext ⟨fun z => False.elim z, fun z => absurd z.1 h⟩
@[simp ↓] theorem wp_rev_s : wp (kRev δ (.fz (.str s)) st) Q X = guardK (s.length ≤ LIM) (hold (q := ⟨fun _ => Q (.fz (.str s.reverse)) st⟩)) :=
  wp_g (p := s.length ≤ LIM) (f := rsv s.reverse)
@[simp ↓] theorem wp_rev_l : wp (kRev δ (.fz (.lst ds)) st) Q X = Q (.ow (.lst ds.reverse)) st := (rfl)
@[simp ↓] theorem wp_rev_o : wp (kRev δ (.ow (.lst ds)) st) Q X = Q (.ow (.lst ds.reverse)) st := (rfl)
@[simp ↓] theorem wp_rev_v : wp (kRev δ (.vw n) st) Q X = optK (ownL δ n) (hold (q := ⟨fun ds => Q (.ow (.lst ds.reverse)) st⟩)) := by
  show wp (opt (Rv.asR δ st (.vw n)) (fun ds => ret (.ow (.lst ds.reverse))) st) Q X = _
  rw [wp_opt0, asR_v']; rfl
@[simp ↓] theorem wp_lstR1 : wp (gLstR1 ga δ st) Q X = wp (ga δ st) (hold (q := ⟨fun r st1 => optK r.asI (hold (q := ⟨fun j => guardK (okR j = true ∧ j ≤ 16777216) (hold (q := ⟨fun _ => Q (.ow (.lst (rangeD 0 j.toNat))) st1⟩))⟩))⟩)) X := by
  unfold gLstR1
  rw [wp_bnd0]
  refine wp_cg fun r st1 => ?_
  try simp only [hold_1, hold_2]
  rw [wp_opt0]
  refine optK_cg fun j => ?_
  exact wp_g
@[simp] theorem seqI_l : (Rv.fz (.lst ds)).seqI = some ds := (rfl)
@[simp] theorem seqI_t : (Rv.fz (.tup ds)).seqI = some ds := (rfl)
@[simp] theorem seqI_r : (Rv.fz (.rol ds)).seqI = some ds := (rfl)
@[simp ↓] theorem wp_revI : wp (gRevI ga δ st) QI X = wp (ga δ st) (hold (q := ⟨fun r st1 => optK r.frz.seqI (hold (q := ⟨fun ds => QI ds.reverse st1⟩))⟩)) X := by
  unfold gRevI
  rw [wp_bnd0, wp_frz0]
  refine wp_cg fun r st1 => ?_
  try simp only [hold_1, hold_2]
  rw [wp_opt0]
  rfl
theorem wp_inQ0 {p : Bool} : wp (kInQ p δ x y st) Q X = optK (x.dat δ) (hold (q := ⟨fun d => optK (y.asQ δ st) (hold (q := ⟨fun ds => guardK ((d.flat && ds.all D.flat) = true) (hold (q := ⟨fun _ => Q (.fz (.bl (xor p (inD d ds)))) st⟩))⟩))⟩)) := by
  unfold kInQ
  rw [wp_opt0]
  refine optK_cg fun d => ?_
  try simp only [hold_1, hold_2]
  rw [wp_opt0]
  refine optK_cg fun ds => ?_
  exact wp_g
theorem kIn_Q {p : Bool} (h : y.asS.isSome = false) : kIn p δ x y = kInQ p δ x y := by
  unfold kIn kOr isSS
  rw [h, Bool.and_false]
  rfl
@[simp ↓] theorem wp_in_t {p : Bool} : wp (kIn p δ x (.fz (.tup ds)) st) Q X = optK (x.dat δ) (hold (q := ⟨fun d => guardK ((d.flat && ds.all D.flat) = true) (hold (q := ⟨fun _ => Q (.fz (.bl (xor p (inD d ds)))) st⟩))⟩)) := by
  rw [kIn_Q rfl, wp_inQ0]; rfl
@[simp ↓] theorem wp_in_l {p : Bool} : wp (kIn p δ x (.fz (.lst ds)) st) Q X = optK (x.dat δ) (hold (q := ⟨fun d => guardK ((d.flat && ds.all D.flat) = true) (hold (q := ⟨fun _ => Q (.fz (.bl (xor p (inD d ds)))) st⟩))⟩)) := by
  rw [kIn_Q rfl, wp_inQ0]; rfl
@[simp ↓] theorem wp_in_o {p : Bool} : wp (kIn p δ x (.ow (.lst ds)) st) Q X = optK (x.dat δ) (hold (q := ⟨fun d => guardK ((d.flat && ds.all D.flat) = true) (hold (q := ⟨fun _ => Q (.fz (.bl (xor p (inD d ds)))) st⟩))⟩)) := by
  rw [kIn_Q rfl, wp_inQ0]; rfl
@[simp ↓] theorem wp_in_v {p : Bool} : wp (kIn p δ x (.vw n) st) Q X = optK (x.dat δ) (hold (q := ⟨fun d => optK (ownL δ n) (hold (q := ⟨fun ds => guardK ((d.flat && ds.all D.flat) = true) (hold (q := ⟨fun _ => Q (.fz (.bl (xor p (inD d ds)))) st⟩))⟩))⟩)) := by
  rw [kIn_Q rfl, wp_inQ0, asQ_vw]
@[simp ↓] theorem wp_comp0 {t : GT} {tt : DEnv → M Bool} {te : DEnv → M Rv} {QL : List D → Sto → Prop} : wp (compG t tt te δ [] ds st) QL X = QL ds st := (rfl)
@[simp] theorem flat_s : D.flat (.str s) = true := (rfl)
@[simp] theorem flat_i : D.flat (.int i) = true := (rfl)
@[simp] theorem flat_n : D.flat .non = true := (rfl)
@[simp] theorem flat_b : D.flat (.bl b) = true := (rfl)
end
end DL

/-! DJ: rows filled, substituted, mirrored. -/
namespace DL
open PySem PySem.Spec PyProof.Rows L2 TL
set_option autoImplicit false
/-- an item's text, the strips' texts given -/
def itT (tx : List (List Nat)) : It → List Nat
  | .s t => t
  | .n i => tx.getD i.toNat []
@[simp] theorem itT_s {tx : List (List Nat)} {t : List Nat} : itT tx (.s t) = t := rfl
@[simp] theorem itT_n {tx : List (List Nat)} {i : Int} : itT tx (.n i) = tx.getD i.toNat [] := rfl
def fillT (r : List It) (tx : List (List Nat)) : List Nat := (r.map (itT tx)).flatten
@[simp] theorem fillT_nil {tx : List (List Nat)} : fillT [] tx = [] := rfl
theorem fillT_app (a b : List It) (tx : List (List Nat)) : fillT (a ++ b) tx = fillT a tx ++ fillT b tx := by simp [fillT]
theorem fillT_cons (x : It) (b : List It) (tx : List (List Nat)) : fillT (x :: b) tx = itT tx x ++ fillT b tx := by simp [fillT]
theorem fillT_one (x : It) (tx : List (List Nat)) : fillT [x] tx = itT tx x := by simp [fillT]
theorem fillT_nstep (acc : List It) (x : It) (tx : List (List Nat)) : fillT (nstep acc x) tx = fillT acc tx ++ itT tx x := by
  cases x with
  | n i => simp [nstep, fillT_app, fillT_one]
  | s t =>
    rcases List.eq_nil_or_concat acc with rfl | ⟨l, a, rfl⟩
    · by_cases h : t = [] <;> simp [nstep, h, fillT_one]
    · cases a with
      | n i => by_cases h : t = [] <;> simp [nstep, h, fillT_app, fillT_cons]
      | s u => simp [nstep, fillT_app, fillT_cons]
theorem fillT_norm (r : List It) (tx : List (List Nat)) : fillT (norm r) tx = fillT r tx := by
  induction r using rev_ind with
  | h0 => rfl
  | hs r x ih => rw [norm_snoc, fillT_nstep, ih, fillT_app, fillT_one]
/-- the strips are of the first n -/
def It.inR (n : Nat) : It → Bool
  | .n i => decide (0 ≤ i ∧ i < n)
  | .s _ => true
@[simp] theorem inR_s {n : Nat} {t : List Nat} : It.inR n (.s t) = true := rfl
@[simp] theorem inR_n {n : Nat} {i : Int} : It.inR n (.n i) = decide (0 ≤ i ∧ i < n) := rfl
def subI (rows : List (List It)) : It → List It
  | .s t => [.s t]
  | .n i => rows.getD i.toNat []
@[simp] theorem subI_s {rows : List (List It)} {t : List Nat} : subI rows (.s t) = [.s t] := rfl
@[simp] theorem subI_n {rows : List (List It)} {i : Int} : subI rows (.n i) = rows.getD i.toNat [] := rfl
def subst (r : List It) (rows : List (List It)) : List It := norm (r.flatMap (subI rows))
theorem getD_map {α β : Type} (f : α → β) (l : List α) (d : α) (k : Nat) : (l.map f).getD k (f d) = f (l.getD k d) := by
  simp only [List.getD_eq_getElem?_getD, List.getElem?_map]
  cases l[k]? <;> rfl
theorem fill_subI (rows : List (List It)) (tx : List (List Nat)) (x : It) : fillT (subI rows x) tx = itT (rows.map fun r => fillT r tx) x := by
  cases x with
  | s t => simp [fillT_one]
  | n i =>
    rw [subI_n, itT_n, ← getD_map (fun r => fillT r tx) rows []]
    rfl
theorem fill_flat (r : List It) (rows : List (List It)) (tx : List (List Nat)) : fillT (r.flatMap (subI rows)) tx = fillT r (rows.map fun r => fillT r tx) := by
  induction r with
  | nil => rfl
  | cons x r ih => rw [List.flatMap_cons, fillT_app, ih, fillT_cons, fill_subI]
theorem fill_subst (r : List It) (rows : List (List It)) (tx : List (List Nat)) : fillT (subst r rows) tx = fillT r (rows.map fun r => fillT r tx) := by
  unfold subst
  rw [fillT_norm, fill_flat]
theorem strips_flat (r : List It) (rows : List (List It)) : strips (r.flatMap (subI rows)) = (strips r).flatMap fun x => strips (subI rows x) := by
  induction r with
  | nil => rfl
  | cons x r ih =>
    rw [List.flatMap_cons, strips_app, ih]
    cases x with
    | n i => simp [strips]
    | s t => simp [strips]
theorem lets_flat (r : List It) (rows : List (List It)) {B : Nat} (h : ∀ q ∈ rows, lets q ≤ B) : lets (r.flatMap (subI rows)) ≤ lets r + r.length * B := by
  induction r with
  | nil => simp
  | cons x r ih =>
    rw [List.flatMap_cons, lets_app, lets_cons, List.length_cons]
    have : lets (subI rows x) ≤ x.size + B := by
      cases x with
      | s t => simp
      | n i =>
        rw [subI_n, List.getD_eq_getElem?_getD]
        cases q : rows[i.toNat]? with
        | none => simp
        | some z => have := h z (List.mem_of_getElem? q); simp; omega
    rw [Nat.succ_mul]
    omega
theorem length_flat (r : List It) (rows : List (List It)) {B : Nat} (h : ∀ q ∈ rows, q.length ≤ B) : (r.flatMap (subI rows)).length ≤ r.length * (B + 1) := by
  induction r with
  | nil => simp
  | cons x r ih =>
    rw [List.flatMap_cons, List.length_append, List.length_cons, Nat.succ_mul]
    have : (subI rows x).length ≤ B + 1 := by
      cases x with
      | s t => simp
      | n i =>
        rw [subI_n, List.getD_eq_getElem?_getD]
        cases q : rows[i.toNat]? with
        | none => simp
        | some z => have := h z (List.mem_of_getElem? q); simp; omega
    omega
theorem fine_flat {r : List It} {rows : List (List It)} (hr : r.all It.fine = true) (h : ∀ q ∈ rows, q.all It.fine = true) : (r.flatMap (subI rows)).all It.fine = true := by
  induction r with
  | nil => rfl
  | cons x r ih =>
    rw [List.all_cons, Bool.and_eq_true] at hr
    rw [List.flatMap_cons, List.all_append, ih hr.2, Bool.and_true]
    cases x with
    | s t => simpa using hr.1
    | n i =>
      rw [subI_n, List.getD_eq_getElem?_getD]
      cases q : rows[i.toNat]? with
      | none => rfl
      | some z => exact h z (List.mem_of_getElem? q)
/-- from its end -/
def mirI : It → It
  | .s t => .s t.reverse
  | .n i => .n i
@[simp] theorem mirI_s {t : List Nat} : mirI (.s t) = .s t.reverse := rfl
@[simp] theorem mirI_n {i : Int} : mirI (.n i) = .n i := rfl
def mirR (r : List It) : List It := r.reverse.map mirI
theorem mirI_mirI (x : It) : mirI (mirI x) = x := by cases x <;> simp
theorem mirR_mirR (r : List It) : mirR (mirR r) = r := by
  unfold mirR
  rw [← List.map_reverse, List.reverse_reverse, List.map_map]
  rw [show mirI ∘ mirI = id from funext mirI_mirI, List.map_id]
theorem itT_mir (tx : List (List Nat)) (x : It) : itT (tx.map List.reverse) (mirI x) = (itT tx x).reverse := by
  cases x with
  | s t => rfl
  | n i =>
    rw [mirI_n, itT_n, itT_n, ← getD_map List.reverse tx []]
    rfl
theorem fill_mir (r : List It) (tx : List (List Nat)) : fillT (mirR r) (tx.map List.reverse) = (fillT r tx).reverse := by
  unfold fillT mirR
  rw [List.map_map, List.reverse_flatten, List.map_map, ← List.map_reverse]
  congr 1
  exact List.map_congr_left fun x _ => itT_mir tx x
theorem mir_lets (r : List It) : lets (mirR r) = lets r := by
  have : ∀ x : It, (mirI x).size = x.size := fun x => by cases x <;> simp
  unfold lets mirR
  rw [List.map_map, show It.size ∘ mirI = It.size from funext this, List.map_reverse, List.sum_reverse]
theorem fill_len (r : List It) (tx : List (List Nat)) {B : Nat} (h : ∀ q ∈ tx, q.length ≤ B) : (fillT r tx).length ≤ lets r + r.length * B := by
  induction r with
  | nil => simp
  | cons x r ih =>
    rw [fillT_cons, List.length_append, lets_cons, List.length_cons, Nat.succ_mul]
    have : (itT tx x).length ≤ x.size + B := by
      cases x with
      | s t => simp
      | n i =>
        rw [itT_n, List.getD_eq_getElem?_getD]
        cases q : tx[i.toNat]? with
        | none => simp
        | some z => have := h z (List.mem_of_getElem? q); simp; omega
    omega
theorem inR_mono {n m : Nat} (h : n ≤ m) {r : List It} (hr : r.all (It.inR n) = true) : r.all (It.inR m) = true := by
  refine List.all_eq_true.mpr fun x hx => ?_
  have := List.all_eq_true.mp hr x hx
  cases x with
  | s t => rfl
  | n i => simp at this ⊢; omega
theorem inR_strips {n : Nat} {r : List It} (h : ∀ x ∈ strips r, x.inR n = true) : r.all (It.inR n) = true := by
  refine List.all_eq_true.mpr fun x hx => ?_
  cases x with
  | s t => rfl
  | n i => exact h _ (by unfold strips; exact List.mem_filter.mpr ⟨hx, rfl⟩)
/-- == of rows -/
theorem deq_row1 (a b : It) : deq a.d b.d = decide (a = b) := by
  cases a <;> cases b <;> simp
theorem deqs_row (a b : List It) : deqs (a.map It.d) (b.map It.d) = decide (a = b) := deqs_map deq_row1 a b
theorem flat_row (r : List It) : (r.map It.d).all D.flat = true := by
  rw [List.all_map]
  exact List.all_eq_true.mpr fun x _ => by cases x <;> rfl
theorem inD_nil (r : List It) : inD (.str []) (r.map It.d) = r.any fun x => decide (x = .s []) := by
  unfold inD
  rw [List.any_map]
  congr 1
  funext x
  cases x <;> simp [eqF]
theorem normal_adj : ∀ {r : List It}, Normal r → ∀ (i : Nat) (h : i + 1 < r.length), (r[i].isS && r[i + 1].isS) = false
  | [], _, i, h => absurd h (by simp)
  | [_], _, i, h => absurd h (by simp)
  | x :: y :: r, n, 0, _ => n.2.1
  | x :: y :: r, n, i + 1, h => by
    have := normal_adj (r := y :: r) n.2.2 i (by simpa using h)
    simpa using this
theorem normal_noempty : ∀ {r : List It}, Normal r → (r.any fun x => decide (x = .s [])) = false
  | [], _ => rfl
  | [x], n => by simpa [Normal] using n
  | x :: y :: r, n => by
    rw [List.any_cons, normal_noempty (r := y :: r) n.2.2, Bool.or_false]
    simpa using n.1
end DL

namespace DL.k06
open PySem PySem.Spec PyProof.Rows L2 TL
set_option autoImplicit false
def top (i : Nat) : Stmt := PySem.Challenge.pw_pastewright_k06_rows_filled_and_substitu.main.body.getD i (.Pass ⟨0, 0, 0, 0⟩)
structure Al (K : PySem.W.Frag) (mg : Str → Option Value) : Prop where
  b_list : mg "list" = none
  b_len : mg "len" = none
  b_range : mg "range" = none
  b_int : mg "int" = none
  b_tuple : mg "tuple" = none
  b_isinstance : mg "isinstance" = none
  b_str : mg "str" = none
  b_reversed : mg "reversed" = none
  b_any : mg "any" = none
  b_all : mg "all" = none
  b_bool : mg "bool" = none
  d_law_bag : HD K mg "_law_bag" (top 6)
  d_law_pull : HD K mg "_law_pull" (top 7)
  d_law_of : HD K mg "_law_of" (top 8)
  d_law_word : HD K mg "_law_word" (top 11)
  d_law_inked : HD K mg "_law_inked" (top 13)
  d_law_fill : HD K mg "_law_fill" (top 14)
  d_mirror_row : HD K mg "mirror_row" (top 4)
  d_law_ink : HD K mg "_law_ink" (top 12)
  d_law_mixed : HD K mg "_law_mixed" (top 9)
  d_normal_row : HD K mg "normal_row" (top 1)
  d_substitute_row : HD K mg "substitute_row" (top 3)
  d_law_is_normal : HD K mg "_law_is_normal" (top 15)
  d_law_same : HD K mg "_law_same" (top 10)
  d_fill_row : HD K mg "fill_row" (top 2)
  d_law : HD K mg "law" (top 16)
section
variable {P : Program} {w : World} {K : PySem.W.Frag} {mg : Str → Option Value} {base : Heap}
/-! law_bag -/
abbrev s_law_bag : Stmt := top 6
def N_law_bag : List Str := ["_law_script", "_law_salt", "_law_cell"]
def g_law_bag_b1 : GS := (sSet 1 (gBin kMod (gBin kAdd (gBin kAdd (gBin kMul (gVar 1) (gC (.int 47119))) (gBin kMod (gVar 2) (gC (.int 2147483587)))) (gC (.int 31))) (gC (.int 2147483647))))
def g_law_bag : GS := (sSeq (sSet 1 (gC (.int 9487)))
    (sSeq (sFor (gItems (gSlice (gVar 0) gONone (gOSome (gC (.int 63))) kSl)) (tName 2) g_law_bag_b1)
    (sRet (gLst (gCons (gFn kListA (gCons (gSlice (gVar 0) gONone (gOSome (gC (.int 63))) kSl) gNil)) (gCons (gC (.int 0)) (gCons (gC (.int 0)) (gCons (gVar 1) (gCons (gC (.int 0)) gNil)))))))))
def F_law_bag : List D → M Rv := runB N_law_bag g_law_bag
theorem sc_law_bag : FnScope N_law_bag ["_law_script"] (defScope s_law_bag) := ⟨rfl, rfl, rfl, by decide +kernel, rfl, by decide +kernel, by decide +kernel⟩
theorem dg_law_bag_b1 (A : Al K mg) : DSs ⟨P, w, K, mg, base, N_law_bag, defScope s_law_bag, 0, true⟩ (bodyOf (sAt (defBody s_law_bag) 1)) (g_law_bag_b1) :=
  (dss_one (ds_set (i := 1) rfl (Or.inl rfl) (de_bin ok_mod (de_bin ok_add (de_bin ok_add (de_bin ok_mul (de_var (i := 1) rfl (Or.inl rfl)) de_int) (de_bin ok_mod (de_var (i := 2) rfl (Or.inl rfl)) de_int)) de_int) de_int)))
theorem dg_law_bag (A : Al K mg) : DSs ⟨P, w, K, mg, base, N_law_bag, defScope s_law_bag, 0, true⟩ (defBody s_law_bag) g_law_bag :=
  (dss_cons (ds_set (i := 1) rfl (Or.inl rfl) de_int)
    (dss_cons (ds_for (di_any (de_slice (de_var (i := 0) rfl (Or.inl rfl)) do_none (do_some de_int))) (dg_name (i := 2) rfl (Or.inl rfl)) (dg_law_bag_b1 A))
    (dss_one (ds_ret (de_lst (da_cons (de_fnT ok_listA rfl A.b_list bt_list (da_cons (de_slice (de_var (i := 0) rfl (Or.inl rfl)) do_none (do_some de_int)) da_nil)) (da_cons de_int (da_cons de_int (da_cons (de_var (i := 1) rfl (Or.inl rfl)) (da_cons de_int da_nil))))))))))
theorem ok_law_bag (A : Al K mg) : FnX P w K mg base 1 "_law_bag" 1 F_law_bag := by
  obtain ⟨fa, fd, F, h⟩ := A.d_law_bag
  exact fnxD F h sc_law_bag rfl (fun _ _ _ _ _ _ us hl => match us, hl with | [_], _ => rfl) (dg_law_bag A)
/-! law_pull -/
abbrev s_law_pull : Stmt := top 7
def N_law_pull : List Str := ["_law_bag_here", "_law_sides", "_law_cell", "_law_got", "_law_seed"]
def g_law_pull : GS := (sSeq (sIf (gAndT (gTB (gBin (kEq' false) (gBin kIx (gVar 0) (gC (.int 2))) (gC (.int 0)))) (gTB (gBin (kLt) (gBin kIx (gVar 0) (gC (.int 1))) (gFn kLen (gCons (gBin kIx (gVar 0) (gC (.int 0))) gNil))))) (sSeq (sSet 2 (gBin kIx (gBin kIx (gVar 0) (gC (.int 0))) (gBin kIx (gVar 0) (gC (.int 1)))))
    (sSeq (sSubC 0 (gBin kAdd (gBin kIx (gVar 0) (gC (.int 1))) (gC (.int 1))) (gC (.int 1)))
    (sIf (gTB (gBin (kGe) (gVar 2) (gBin kPow (gC (.int 10)) (gC (.int 18))))) (sSubC 0 (gVar 2) (gC (.int 2))) (sSubC 0 (gBin kMod (gBin kAdd (gBin kAdd (gBin kMul (gBin kIx (gVar 0) (gC (.int 3))) (gC (.int 38011))) (gBin kMod (gVar 2) (gC (.int 2147483579)))) (gC (.int 13))) (gC (.int 2147483647))) (gC (.int 3)))))) sNext)
    (sSeq (sIf (gTB (gBin (kGt) (gBin kIx (gVar 0) (gC (.int 2))) (gC (.int 0)))) (sSeq (sSet 3 (gBin kMod (gBin kIx (gVar 0) (gC (.int 2))) (gVar 1)))
    (sSeq (sSubC 0 (gBin kDiv (gBin kIx (gVar 0) (gC (.int 2))) (gVar 1)) (gC (.int 2)))
    (sRet (gVar 3)))) sNext)
    (sSeq (sSubC 0 (gBin kAdd (gBin kIx (gVar 0) (gC (.int 4))) (gC (.int 1))) (gC (.int 4)))
    (sSeq (sSet 4 (gBin kMod (gBin kAdd (gBin kIx (gVar 0) (gC (.int 3))) (gBin kMul (gBin kIx (gVar 0) (gC (.int 4))) (gC (.int 6907)))) (gC (.int 2147483647))))
    (sSeq (sSubC 0 (gBin kMod (gBin kAdd (gBin kAdd (gBin kPow (gVar 4) (gC (.int 3))) (gBin kMul (gC (.int 30011)) (gVar 4))) (gC (.int 2003))) (gC (.int 2147483647))) (gC (.int 3)))
    (sRet (gBin kMod (gBin kAdd (gBin kDiv (gBin kIx (gVar 0) (gC (.int 3))) (gC (.int 73))) (gBin kMul (gBin kMod (gBin kIx (gVar 0) (gC (.int 3))) (gC (.int 7879))) (gC (.int 43)))) (gVar 1))))))))
def F_law_pull : List D → M Rv := runB N_law_pull g_law_pull
theorem sc_law_pull : FnScope N_law_pull ["_law_bag_here", "_law_sides"] (defScope s_law_pull) := ⟨rfl, rfl, rfl, by decide +kernel, rfl, by decide +kernel, by decide +kernel⟩
theorem dg_law_pull (A : Al K mg) : DSs ⟨P, w, K, mg, base, N_law_pull, defScope s_law_pull, 0, true⟩ (defBody s_law_pull) g_law_pull :=
  (dss_cons (ds_if (dt_w (dw_and (dt_cmp ok_eq' (de_ix (de_var (i := 0) rfl (Or.inl rfl)) de_int) de_int) (dw_and1 (dt_cmp ok_lt (de_ix (de_var (i := 0) rfl (Or.inl rfl)) de_int) (de_fn ok_len rfl A.b_len bt_len (da_cons (de_ix (de_var (i := 0) rfl (Or.inl rfl)) de_int) da_nil)))))) (dss_cons (ds_set (i := 2) rfl (Or.inl rfl) (de_ix (de_ix (de_var (i := 0) rfl (Or.inl rfl)) de_int) (de_ix (de_var (i := 0) rfl (Or.inl rfl)) de_int)))
    (dss_cons (ds_subC (i := 0) rfl (Or.inl rfl) (de_bin ok_add (de_ix (de_var (i := 0) rfl (Or.inl rfl)) de_int) de_int) de_int)
    (dss_one (ds_if (dt_cmp ok_ge (de_var (i := 2) rfl (Or.inl rfl)) (de_bin ok_pow de_int de_int)) (dss_one (ds_subC (i := 0) rfl (Or.inl rfl) (de_var (i := 2) rfl (Or.inl rfl)) de_int)) (dss_one (ds_subC (i := 0) rfl (Or.inl rfl) (de_bin ok_mod (de_bin ok_add (de_bin ok_add (de_bin ok_mul (de_ix (de_var (i := 0) rfl (Or.inl rfl)) de_int) de_int) (de_bin ok_mod (de_var (i := 2) rfl (Or.inl rfl)) de_int)) de_int) de_int) de_int)))))) dss_nil)
    (dss_cons (ds_if (dt_cmp ok_gt (de_ix (de_var (i := 0) rfl (Or.inl rfl)) de_int) de_int) (dss_cons (ds_set (i := 3) rfl (Or.inl rfl) (de_bin ok_mod (de_ix (de_var (i := 0) rfl (Or.inl rfl)) de_int) (de_var (i := 1) rfl (Or.inl rfl))))
    (dss_cons (ds_subC (i := 0) rfl (Or.inl rfl) (de_bin ok_div (de_ix (de_var (i := 0) rfl (Or.inl rfl)) de_int) (de_var (i := 1) rfl (Or.inl rfl))) de_int)
    (dss_one (ds_ret (de_var (i := 3) rfl (Or.inl rfl)))))) dss_nil)
    (dss_cons (ds_subC (i := 0) rfl (Or.inl rfl) (de_bin ok_add (de_ix (de_var (i := 0) rfl (Or.inl rfl)) de_int) de_int) de_int)
    (dss_cons (ds_set (i := 4) rfl (Or.inl rfl) (de_bin ok_mod (de_bin ok_add (de_ix (de_var (i := 0) rfl (Or.inl rfl)) de_int) (de_bin ok_mul (de_ix (de_var (i := 0) rfl (Or.inl rfl)) de_int) de_int)) de_int))
    (dss_cons (ds_subC (i := 0) rfl (Or.inl rfl) (de_bin ok_mod (de_bin ok_add (de_bin ok_add (de_bin ok_pow (de_var (i := 4) rfl (Or.inl rfl)) de_int) (de_bin ok_mul de_int (de_var (i := 4) rfl (Or.inl rfl)))) de_int) de_int) de_int)
    (dss_one (ds_ret (de_bin ok_mod (de_bin ok_add (de_bin ok_div (de_ix (de_var (i := 0) rfl (Or.inl rfl)) de_int) de_int) (de_bin ok_mul (de_bin ok_mod (de_ix (de_var (i := 0) rfl (Or.inl rfl)) de_int) de_int) de_int)) (de_var (i := 1) rfl (Or.inl rfl))))))))))
theorem ok_law_pull (A : Al K mg) : FnX P w K mg base 1 "_law_pull" 2 F_law_pull := by
  obtain ⟨fa, fd, F, h⟩ := A.d_law_pull
  exact fnxD F h sc_law_pull rfl (fun _ _ _ _ _ _ us hl => match us, hl with | [_, _], _ => rfl) (dg_law_pull A)
/-! law_of -/
abbrev s_law_of : Stmt := top 8
def N_law_of : List Str := ["_law_bag_here", "_law_some"]
def g_law_of : GS := (sRet (gBin kIx (gVar 1) (gCall 2 F_law_pull (gCons (gVar 0) (gCons (gFn kLen (gCons (gVar 1) gNil)) gNil)))))
def F_law_of : List D → M Rv := runB N_law_of g_law_of
theorem sc_law_of : FnScope N_law_of ["_law_bag_here", "_law_some"] (defScope s_law_of) := ⟨rfl, rfl, rfl, by decide +kernel, rfl, by decide +kernel, by decide +kernel⟩
theorem dg_law_of (A : Al K mg) : DSs ⟨P, w, K, mg, base, N_law_of, defScope s_law_of, 1, true⟩ (defBody s_law_of) g_law_of :=
  (dss_one (ds_ret (de_ix (de_var (i := 1) rfl (Or.inl rfl)) (de_call ((ok_law_pull A).at (Nat.le_of_ble_eq_true rfl)) rfl (da_cons (de_var (i := 0) rfl (Or.inl rfl)) (da_cons (de_fn ok_len rfl A.b_len bt_len (da_cons (de_var (i := 1) rfl (Or.inl rfl)) da_nil)) da_nil))))))
theorem ok_law_of (A : Al K mg) : FnX P w K mg base 2 "_law_of" 2 F_law_of := by
  obtain ⟨fa, fd, F, h⟩ := A.d_law_of
  exact fnxD F h sc_law_of rfl (fun _ _ _ _ _ _ us hl => match us, hl with | [_, _], _ => rfl) (dg_law_of A)
/-! law_word -/
abbrev s_law_word : Stmt := top 11
def N_law_word : List Str := ["_law_bag_here", "_law_ink_here", "_law_most", "_law_k"]
def g_law_word : GS := (sRet (gJoin (gC (.str [])) (gLc (gRange1 (gCons (gCall 2 F_law_pull (gCons (gVar 0) (gCons (gBin kAdd (gVar 2) (gC (.int 1))) gNil))) gNil)) [3] (tName 3) gYes (gCall 2 F_law_of (gCons (gVar 0) (gCons (gVar 1) gNil))))))
def F_law_word : List D → M Rv := runB N_law_word g_law_word
theorem sc_law_word : FnScope N_law_word ["_law_bag_here", "_law_ink_here", "_law_most"] (defScope s_law_word) := ⟨rfl, rfl, rfl, by decide +kernel, rfl, by decide +kernel, by decide +kernel⟩
theorem dg_law_word (A : Al K mg) : DSs ⟨P, w, K, mg, base, N_law_word, defScope s_law_word, 2, true⟩ (defBody s_law_word) g_law_word :=
  (dss_one (ds_ret (de_join de_str (de_lc (own := [("_law_k", 3)]) (di_range1 rfl A.b_range (da_cons (de_call ((ok_law_pull A).at (Nat.le_of_ble_eq_true rfl)) rfl (da_cons (de_var (i := 0) rfl (Or.inr (Or.inl rfl))) (da_cons (de_bin ok_add (de_var (i := 2) rfl (Or.inl rfl)) de_int) da_nil))) da_nil)) (by kernel_rfl) (dg_name (i := 3) rfl (Or.inl rfl)) dts_nil (de_call ((ok_law_of A).at (Nat.le_of_ble_eq_true rfl)) rfl (da_cons (de_var (i := 0) rfl (Or.inr (Or.inl rfl))) (da_cons (de_var (i := 1) rfl (Or.inr (Or.inl rfl))) da_nil)))))))
theorem ok_law_word (A : Al K mg) : FnX P w K mg base 3 "_law_word" 3 F_law_word := by
  obtain ⟨fa, fd, F, h⟩ := A.d_law_word
  exact fnxD F h sc_law_word rfl (fun _ _ _ _ _ _ us hl => match us, hl with | [_, _, _], _ => rfl) (dg_law_word A)
/-! law_inked -/
abbrev s_law_inked : Stmt := top 13
def N_law_inked : List Str := ["_law_bag_here", "_law_lot", "_law_ink_here", "_law_found", "_law_item", "_law_word_here"]
def g_law_inked_b1 : GS := (sSeq (sSet 5 (gCall 3 F_law_word (gCons (gVar 0) (gCons (gVar 2) (gCons (gCall 2 F_law_of (gCons (gVar 0) (gCons (gLst (gCons (gC (.int 0)) (gCons (gC (.int 1)) (gCons (gC (.int 2)) gNil)))) gNil))) gNil)))))
    (sSet 3 (gBin kAdd (gBin kAdd (gVar 3) (gBin kMul (gLst (gCons (gVar 5) gNil)) (gFn kInt (gCons (gBin (kEq' true) (gVar 5) (gC (.str []))) gNil)))) (gBin kMul (gLst (gCons (gVar 4) gNil)) (gFn kInt (gCons (gBin (kIs true) (gVar 4) (gC .non)) gNil))))))
def g_law_inked : GS := (sSeq (sSet 3 (gLst gNil))
    (sSeq (sFor (gItems (gBin kAdd (gVar 1) (gLst (gCons (gC .non) gNil)))) (tName 4) g_law_inked_b1)
    (sRet (gFn kTuple (gCons (gVar 3) gNil)))))
def F_law_inked : List D → M Rv := runB N_law_inked g_law_inked
theorem sc_law_inked : FnScope N_law_inked ["_law_bag_here", "_law_lot", "_law_ink_here"] (defScope s_law_inked) := ⟨rfl, rfl, rfl, by decide +kernel, rfl, by decide +kernel, by decide +kernel⟩
theorem dg_law_inked_b1 (A : Al K mg) : DSs ⟨P, w, K, mg, base, N_law_inked, defScope s_law_inked, 3, true⟩ (bodyOf (sAt (defBody s_law_inked) 1)) (g_law_inked_b1) :=
  (dss_cons (ds_set (i := 5) rfl (Or.inl rfl) (de_call ((ok_law_word A).at (Nat.le_of_ble_eq_true rfl)) rfl (da_cons (de_var (i := 0) rfl (Or.inl rfl)) (da_cons (de_var (i := 2) rfl (Or.inl rfl)) (da_cons (de_call ((ok_law_of A).at (Nat.le_of_ble_eq_true rfl)) rfl (da_cons (de_var (i := 0) rfl (Or.inl rfl)) (da_cons (de_lst (da_cons de_int (da_cons de_int (da_cons de_int da_nil)))) da_nil))) da_nil)))))
    (dss_one (ds_set (i := 3) rfl (Or.inl rfl) (de_bin ok_add (de_bin ok_add (de_var (i := 3) rfl (Or.inl rfl)) (de_bin ok_mul (de_lst (da_cons (de_var (i := 5) rfl (Or.inl rfl)) da_nil)) (de_fnT ok_int rfl A.b_int bt_int (da_cons (de_cmp ok_ne' (de_var (i := 5) rfl (Or.inl rfl)) de_str) da_nil)))) (de_bin ok_mul (de_lst (da_cons (de_var (i := 4) rfl (Or.inl rfl)) da_nil)) (de_fnT ok_int rfl A.b_int bt_int (da_cons (de_cmp ok_isnot (de_var (i := 4) rfl (Or.inl rfl)) de_non) da_nil)))))))
theorem dg_law_inked (A : Al K mg) : DSs ⟨P, w, K, mg, base, N_law_inked, defScope s_law_inked, 3, true⟩ (defBody s_law_inked) g_law_inked :=
  (dss_cons (ds_set (i := 3) rfl (Or.inl rfl) (de_lst da_nil))
    (dss_cons (ds_for (di_any (de_bin ok_add (de_var (i := 1) rfl (Or.inl rfl)) (de_lst (da_cons de_non da_nil)))) (dg_name (i := 4) rfl (Or.inl rfl)) (dg_law_inked_b1 A))
    (dss_one (ds_ret (de_fnT ok_tuple rfl A.b_tuple bt_tuple (da_cons (de_var (i := 3) rfl (Or.inl rfl)) da_nil))))))
theorem ok_law_inked (A : Al K mg) : FnX P w K mg base 4 "_law_inked" 3 F_law_inked := by
  obtain ⟨fa, fd, F, h⟩ := A.d_law_inked
  exact fnxD F h sc_law_inked rfl (fun _ _ _ _ _ _ us hl => match us, hl with | [_, _, _], _ => rfl) (dg_law_inked A)
/-! law_fill -/
abbrev s_law_fill : Stmt := top 14
def N_law_fill : List Str := ["_law_row", "_law_texts", "_law_item"]
def g_law_fill : GS := (sRet (gJoin (gC (.str [])) (gLc (gItems (gVar 0)) [2] (tName 2) gYes (gIf (gTru (gFn kIsi (gCons (gVar 2) (gCons (gC (.ty "str")) gNil)))) (gVar 2) (gBin kIx (gVar 1) (gVar 2))))))
def F_law_fill : List D → M Rv := runB N_law_fill g_law_fill
theorem sc_law_fill : FnScope N_law_fill ["_law_row", "_law_texts"] (defScope s_law_fill) := ⟨rfl, rfl, rfl, by decide +kernel, rfl, by decide +kernel, by decide +kernel⟩
theorem dg_law_fill (A : Al K mg) : DSs ⟨P, w, K, mg, base, N_law_fill, defScope s_law_fill, 0, true⟩ (defBody s_law_fill) g_law_fill :=
  (dss_one (ds_ret (de_join de_str (de_lc (own := [("_law_item", 2)]) (di_any (de_var (i := 0) rfl (Or.inl rfl))) (by kernel_rfl) (dg_name (i := 2) rfl (Or.inl rfl)) dts_nil (de_if (dt_tru (de_fn ok_isi rfl A.b_isinstance bt_isinstance (da_cons (de_var (i := 2) rfl (Or.inl rfl)) (da_cons (de_ty rfl A.b_str bt_str) da_nil)))) (de_var (i := 2) rfl (Or.inl rfl)) (de_ix (de_var (i := 1) rfl (Or.inr (Or.inl rfl))) (de_var (i := 2) rfl (Or.inl rfl))))))))
theorem ok_law_fill (A : Al K mg) : FnX P w K mg base 1 "_law_fill" 2 F_law_fill := by
  obtain ⟨fa, fd, F, h⟩ := A.d_law_fill
  exact fnxD F h sc_law_fill rfl (fun _ _ _ _ _ _ us hl => match us, hl with | [_, _], _ => rfl) (dg_law_fill A)
/-! mirror_row -/
abbrev s_mirror_row : Stmt := top 4
def N_mirror_row : List Str := ["row", "item"]
def g_mirror_row : GS := (sRet (gFn kTuple (gCons (gLc (gRevI (gVar 0)) [1] (tName 1) gYes (gIf (gTru (gFn kIsi (gCons (gVar 1) (gCons (gC (.ty "str")) gNil)))) (gUn kRev (gVar 1)) (gVar 1))) gNil)))
def F_mirror_row : List D → M Rv := runB N_mirror_row g_mirror_row
theorem sc_mirror_row : FnScope N_mirror_row ["row"] (defScope s_mirror_row) := ⟨rfl, rfl, rfl, by decide +kernel, rfl, by decide +kernel, by decide +kernel⟩
theorem dg_mirror_row (A : Al K mg) : DSs ⟨P, w, K, mg, base, N_mirror_row, defScope s_mirror_row, 0, true⟩ (defBody s_mirror_row) g_mirror_row :=
  (dss_one (ds_ret (de_fnT ok_tuple rfl A.b_tuple bt_tuple (da_cons (de_lc (own := [("item", 1)]) (di_rev rfl A.b_reversed (de_var (i := 0) rfl (Or.inl rfl))) (by kernel_rfl) (dg_name (i := 1) rfl (Or.inl rfl)) dts_nil (de_if (dt_tru (de_fn ok_isi rfl A.b_isinstance bt_isinstance (da_cons (de_var (i := 1) rfl (Or.inl rfl)) (da_cons (de_ty rfl A.b_str bt_str) da_nil)))) (de_rev (de_var (i := 1) rfl (Or.inl rfl))) (de_var (i := 1) rfl (Or.inl rfl)))) da_nil))))
theorem ok_mirror_row (A : Al K mg) : FnX P w K mg base 1 "mirror_row" 1 F_mirror_row := by
  obtain ⟨fa, fd, F, h⟩ := A.d_mirror_row
  exact fnxD F h sc_mirror_row rfl (fun _ _ _ _ _ _ us hl => match us, hl with | [_], _ => rfl) (dg_mirror_row A)
/-! law_ink -/
abbrev s_law_ink : Stmt := top 12
def N_law_ink : List Str := ["_law_bag_here"]
def g_law_ink : GS := (sRet (gCall 2 F_law_of (gCons (gVar 0) (gCons (gLst (gCons (gC (.str [120])) (gCons (gC (.str [97, 98])) (gCons (gC (.str [120, 121, 122])) (gCons (gC (.str [97, 122, 109])) (gCons (gC (.str [97, 98, 99, 100, 101, 102, 103, 104, 105, 106, 107, 108, 109, 110, 111, 112, 113, 114, 115, 116, 117, 118, 119, 120, 121, 122])) gNil)))))) gNil))))
def F_law_ink : List D → M Rv := runB N_law_ink g_law_ink
theorem sc_law_ink : FnScope N_law_ink ["_law_bag_here"] (defScope s_law_ink) := ⟨rfl, rfl, rfl, by decide +kernel, rfl, by decide +kernel, by decide +kernel⟩
theorem dg_law_ink (A : Al K mg) : DSs ⟨P, w, K, mg, base, N_law_ink, defScope s_law_ink, 2, true⟩ (defBody s_law_ink) g_law_ink :=
  (dss_one (ds_ret (de_call ((ok_law_of A).at (Nat.le_of_ble_eq_true rfl)) rfl (da_cons (de_var (i := 0) rfl (Or.inl rfl)) (da_cons (de_lst (da_cons de_str (da_cons de_str (da_cons de_str (da_cons de_str (da_cons de_str da_nil)))))) da_nil)))))
theorem ok_law_ink (A : Al K mg) : FnX P w K mg base 3 "_law_ink" 1 F_law_ink := by
  obtain ⟨fa, fd, F, h⟩ := A.d_law_ink
  exact fnxD F h sc_law_ink rfl (fun _ _ _ _ _ _ us hl => match us, hl with | [_], _ => rfl) (dg_law_ink A)
/-! law_mixed -/
abbrev s_law_mixed : Stmt := top 9
def N_law_mixed : List Str := ["_law_bag_here", "_law_some", "_law_found", "_law_one"]
def g_law_mixed_b1 : GS := (sOwn 2 (gCons (gCall 2 F_law_pull (gCons (gVar 0) (gCons (gBin kAdd (gFn kLen (gCons (gVar 2) gNil)) (gC (.int 1))) gNil))) (gCons (gVar 3) gNil)) fInsert)
def g_law_mixed : GS := (sSeq (sSet 2 (gLst gNil))
    (sSeq (sFor (gItems (gVar 1)) (tName 3) g_law_mixed_b1)
    (sRet (gVar 2))))
def F_law_mixed : List D → M Rv := runB N_law_mixed g_law_mixed
theorem sc_law_mixed : FnScope N_law_mixed ["_law_bag_here", "_law_some"] (defScope s_law_mixed) := ⟨rfl, rfl, rfl, by decide +kernel, rfl, by decide +kernel, by decide +kernel⟩
theorem dg_law_mixed_b1 (A : Al K mg) : DSs ⟨P, w, K, mg, base, N_law_mixed, defScope s_law_mixed, 1, true⟩ (bodyOf (sAt (defBody s_law_mixed) 1)) (g_law_mixed_b1) :=
  (dss_one (ds_insert (i := 2) rfl (Or.inl rfl) (da_cons (de_call ((ok_law_pull A).at (Nat.le_of_ble_eq_true rfl)) rfl (da_cons (de_var (i := 0) rfl (Or.inl rfl)) (da_cons (de_bin ok_add (de_fn ok_len rfl A.b_len bt_len (da_cons (de_var (i := 2) rfl (Or.inl rfl)) da_nil)) de_int) da_nil))) (da_cons (de_var (i := 3) rfl (Or.inl rfl)) da_nil))))
theorem dg_law_mixed (A : Al K mg) : DSs ⟨P, w, K, mg, base, N_law_mixed, defScope s_law_mixed, 1, true⟩ (defBody s_law_mixed) g_law_mixed :=
  (dss_cons (ds_set (i := 2) rfl (Or.inl rfl) (de_lst da_nil))
    (dss_cons (ds_for (di_any (de_var (i := 1) rfl (Or.inl rfl))) (dg_name (i := 3) rfl (Or.inl rfl)) (dg_law_mixed_b1 A))
    (dss_one (ds_ret (de_var (i := 2) rfl (Or.inl rfl))))))
theorem ok_law_mixed (A : Al K mg) : FnX P w K mg base 2 "_law_mixed" 2 F_law_mixed := by
  obtain ⟨fa, fd, F, h⟩ := A.d_law_mixed
  exact fnxD F h sc_law_mixed rfl (fun _ _ _ _ _ _ us hl => match us, hl with | [_, _], _ => rfl) (dg_law_mixed A)
/-! normal_row -/
abbrev s_normal_row : Stmt := top 1
def N_normal_row : List Str := ["row", "found", "item"]
def g_normal_row_b1 : GS := (sIf (gAndT (gTru (gFn kIsi (gCons (gVar 2) (gCons (gC (.ty "str")) gNil)))) (gAndT (gTB (gBin (kEq' true) (gVar 1) (gLst gNil))) (gTru (gFn kIsi (gCons (gBin kIx (gVar 1) (gUn kNeg (gC (.int 1)))) (gCons (gC (.ty "str")) gNil)))))) (sSub 1 (gBin kAdd (gBin kIx (gVar 1) (gUn kNeg (gC (.int 1)))) (gVar 2)) (gUn kNeg (gC (.int 1)))) (sIf (gTB (gBin (kEq' true) (gVar 2) (gC (.str [])))) (sOwn 1 (gCons (gVar 2) gNil) fAppend) sNext))
def g_normal_row : GS := (sSeq (sSet 1 (gLst gNil))
    (sSeq (sFor (gItems (gVar 0)) (tName 2) g_normal_row_b1)
    (sRet (gFn kTuple (gCons (gVar 1) gNil)))))
def F_normal_row : List D → M Rv := runB N_normal_row g_normal_row
theorem sc_normal_row : FnScope N_normal_row ["row"] (defScope s_normal_row) := ⟨rfl, rfl, rfl, by decide +kernel, rfl, by decide +kernel, by decide +kernel⟩
theorem dg_normal_row_b1 (A : Al K mg) : DSs ⟨P, w, K, mg, base, N_normal_row, defScope s_normal_row, 0, true⟩ (bodyOf (sAt (defBody s_normal_row) 1)) (g_normal_row_b1) :=
  (dss_one (ds_if (dt_w (dw_and (dt_tru (de_fn ok_isi rfl A.b_isinstance bt_isinstance (da_cons (de_var (i := 2) rfl (Or.inl rfl)) (da_cons (de_ty rfl A.b_str bt_str) da_nil)))) (dw_and (dt_cmp ok_ne' (de_var (i := 1) rfl (Or.inl rfl)) (de_lst da_nil)) (dw_and1 (dt_tru (de_fn ok_isi rfl A.b_isinstance bt_isinstance (da_cons (de_ix (de_var (i := 1) rfl (Or.inl rfl)) (de_neg de_int)) (da_cons (de_ty rfl A.b_str bt_str) da_nil)))))))) (dss_one (ds_sub (i := 1) rfl (Or.inl rfl) (de_bin ok_add (de_ix (de_var (i := 1) rfl (Or.inl rfl)) (de_neg de_int)) (de_var (i := 2) rfl (Or.inl rfl))) (de_neg de_int))) (dss_one (ds_if (dt_cmp ok_ne' (de_var (i := 2) rfl (Or.inl rfl)) de_str) (dss_one (ds_append (i := 1) rfl (Or.inl rfl) (da_cons (de_var (i := 2) rfl (Or.inl rfl)) da_nil))) dss_nil))))
theorem dg_normal_row (A : Al K mg) : DSs ⟨P, w, K, mg, base, N_normal_row, defScope s_normal_row, 0, true⟩ (defBody s_normal_row) g_normal_row :=
  (dss_cons (ds_set (i := 1) rfl (Or.inl rfl) (de_lst da_nil))
    (dss_cons (ds_for (di_any (de_var (i := 0) rfl (Or.inl rfl))) (dg_name (i := 2) rfl (Or.inl rfl)) (dg_normal_row_b1 A))
    (dss_one (ds_ret (de_fnT ok_tuple rfl A.b_tuple bt_tuple (da_cons (de_var (i := 1) rfl (Or.inl rfl)) da_nil))))))
theorem ok_normal_row (A : Al K mg) : FnX P w K mg base 1 "normal_row" 1 F_normal_row := by
  obtain ⟨fa, fd, F, h⟩ := A.d_normal_row
  exact fnxD F h sc_normal_row rfl (fun _ _ _ _ _ _ us hl => match us, hl with | [_], _ => rfl) (dg_normal_row A)
/-! substitute_row -/
abbrev s_substitute_row : Stmt := top 3
def N_substitute_row : List Str := ["row", "rows", "found", "item"]
def g_substitute_row_b1 : GS := (sIf (gTru (gFn kIsi (gCons (gVar 3) (gCons (gC (.ty "str")) gNil)))) (sOwn 2 (gCons (gVar 3) gNil) fAppend) (sOwn 2 (gCons (gFn kListA (gCons (gBin kIx (gVar 1) (gVar 3)) gNil)) gNil) fExtend))
def g_substitute_row : GS := (sSeq (sSet 2 (gLst gNil))
    (sSeq (sFor (gItems (gVar 0)) (tName 3) g_substitute_row_b1)
    (sFrz [2] (sRet (gCall 1 F_normal_row (gCons (gVar 2) gNil))))))
def F_substitute_row : List D → M Rv := runB N_substitute_row g_substitute_row
theorem sc_substitute_row : FnScope N_substitute_row ["row", "rows"] (defScope s_substitute_row) := ⟨rfl, rfl, rfl, by decide +kernel, rfl, by decide +kernel, by decide +kernel⟩
theorem dg_substitute_row_b1 (A : Al K mg) : DSs ⟨P, w, K, mg, base, N_substitute_row, defScope s_substitute_row, 1, true⟩ (bodyOf (sAt (defBody s_substitute_row) 1)) (g_substitute_row_b1) :=
  (dss_one (ds_if (dt_tru (de_fn ok_isi rfl A.b_isinstance bt_isinstance (da_cons (de_var (i := 3) rfl (Or.inl rfl)) (da_cons (de_ty rfl A.b_str bt_str) da_nil)))) (dss_one (ds_append (i := 2) rfl (Or.inl rfl) (da_cons (de_var (i := 3) rfl (Or.inl rfl)) da_nil))) (dss_one (ds_extend (i := 2) rfl (Or.inl rfl) (da_cons (de_fnT ok_listA rfl A.b_list bt_list (da_cons (de_ix (de_var (i := 1) rfl (Or.inl rfl)) (de_var (i := 3) rfl (Or.inl rfl))) da_nil)) da_nil)))))
theorem dg_substitute_row (A : Al K mg) : DSs ⟨P, w, K, mg, base, N_substitute_row, defScope s_substitute_row, 1, true⟩ (defBody s_substitute_row) g_substitute_row :=
  (dss_cons (ds_set (i := 2) rfl (Or.inl rfl) (de_lst da_nil))
    (dss_cons (ds_for (di_any (de_var (i := 0) rfl (Or.inl rfl))) (dg_name (i := 3) rfl (Or.inl rfl)) (dg_substitute_row_b1 A))
    (dss_one (ds_frz [2] (ds_ret (de_call ((ok_normal_row A).at (Nat.le_of_ble_eq_true rfl)) rfl (da_cons (de_var (i := 2) rfl (Or.inl rfl)) da_nil)))))))
theorem ok_substitute_row (A : Al K mg) : FnX P w K mg base 2 "substitute_row" 2 F_substitute_row := by
  obtain ⟨fa, fd, F, h⟩ := A.d_substitute_row
  exact fnxD F h sc_substitute_row rfl (fun _ _ _ _ _ _ us hl => match us, hl with | [_, _], _ => rfl) (dg_substitute_row A)
/-! law_is_normal -/
abbrev s_law_is_normal : Stmt := top 15
def N_law_is_normal : List Str := ["_law_row", "_law_words", "_law_item", "_law_k"]
def g_law_is_normal : GS := (sSeq (sSet 1 (gLc (gItems (gVar 0)) [2] (tName 2) gYes (gFn kIsi (gCons (gVar 2) (gCons (gC (.ty "str")) gNil)))))
    (sRet (gAndV (gFn kIsi (gCons (gVar 0) (gCons (gC (.ty "tuple")) gNil))) (gAndV (gBin (kIn true) (gC (.str [])) (gVar 0)) (gNotV (gFn kAny (gCons (gLc (gRange1 (gCons (gBin kSub (gFn kLen (gCons (gVar 0) gNil)) (gC (.int 1))) gNil)) [3] (tName 3) gYes (gAndV (gBin kIx (gVar 1) (gVar 3)) (gBin kIx (gVar 1) (gBin kAdd (gVar 3) (gC (.int 1)))))) gNil)))))))
def F_law_is_normal : List D → M Rv := runB N_law_is_normal g_law_is_normal
theorem sc_law_is_normal : FnScope N_law_is_normal ["_law_row"] (defScope s_law_is_normal) := ⟨rfl, rfl, rfl, by decide +kernel, rfl, by decide +kernel, by decide +kernel⟩
theorem dg_law_is_normal (A : Al K mg) : DSs ⟨P, w, K, mg, base, N_law_is_normal, defScope s_law_is_normal, 0, true⟩ (defBody s_law_is_normal) g_law_is_normal :=
  (dss_cons (ds_setLcC (k := 1) rfl rfl rfl (de_lc (own := [("_law_item", 2)]) (di_any (de_var (i := 0) rfl (Or.inl rfl))) (by kernel_rfl) (dg_name (i := 2) rfl (Or.inl rfl)) dts_nil (de_fn ok_isi rfl A.b_isinstance bt_isinstance (da_cons (de_var (i := 2) rfl (Or.inl rfl)) (da_cons (de_ty rfl A.b_str bt_str) da_nil)))))
    (dss_one (ds_ret (de_and (de_fn ok_isi rfl A.b_isinstance bt_isinstance (da_cons (de_var (i := 0) rfl (Or.inl rfl)) (da_cons (de_ty rfl A.b_tuple bt_tuple) da_nil))) (de_and (de_cmp ok_notin de_str (de_var (i := 0) rfl (Or.inl rfl))) (de_one (de_not (de_fn ok_any rfl A.b_any bt_any (da_cons (de_lc (own := [("_law_k", 3)]) (di_range1 rfl A.b_range (da_cons (de_bin ok_sub (de_fn ok_len rfl A.b_len bt_len (da_cons (de_var (i := 0) rfl (Or.inl rfl)) da_nil)) de_int) da_nil)) (by kernel_rfl) (dg_name (i := 3) rfl (Or.inl rfl)) dts_nil (de_and (de_ix (de_var (i := 1) rfl (Or.inr (Or.inl rfl))) (de_var (i := 3) rfl (Or.inl rfl))) (de_one (de_ix (de_var (i := 1) rfl (Or.inr (Or.inl rfl))) (de_bin ok_add (de_var (i := 3) rfl (Or.inl rfl)) de_int))))) da_nil)))))))))
theorem ok_law_is_normal (A : Al K mg) : FnX P w K mg base 1 "_law_is_normal" 1 F_law_is_normal := by
  obtain ⟨fa, fd, F, h⟩ := A.d_law_is_normal
  exact fnxD F h sc_law_is_normal rfl (fun _ _ _ _ _ _ us hl => match us, hl with | [_], _ => rfl) (dg_law_is_normal A)
/-! law_same -/
abbrev s_law_same : Stmt := top 10
def N_law_same : List Str := ["_law_found", "_law_due", "_law_k"]
def g_law_same (FF : List D → M Rv) : GS := (sSeq (sIf (gTru (gFn kIsi (gCons (gVar 1) (gCons (gTup (gCons (gC (.ty "list")) (gCons (gC (.ty "tuple")) gNil))) gNil)))) (sSeq (sIf (gOrT (gTB (gBin (kEq' true) (gFn kIsi (gCons (gVar 0) (gCons (gC (.ty "list")) gNil))) (gFn kIsi (gCons (gVar 1) (gCons (gC (.ty "list")) gNil))))) (gTB (gBin (kEq' true) (gFn kIsi (gCons (gVar 0) (gCons (gC (.ty "tuple")) gNil))) (gFn kIsi (gCons (gVar 1) (gCons (gC (.ty "tuple")) gNil)))))) (sRet (gC (.bl false))) sNext)
    (sRet (gAndV (gBin (kEq' false) (gFn kLen (gCons (gVar 0) gNil)) (gFn kLen (gCons (gVar 1) gNil))) (gFn kAll (gCons (gLc (gRange1 (gCons (gFn kLen (gCons (gVar 1) gNil)) gNil)) [2] (tName 2) gYes (gCall 2 FF (gCons (gBin kIx (gVar 0) (gVar 2)) (gCons (gBin kIx (gVar 1) (gVar 2)) gNil)))) gNil))))) sNext)
    (sSeq (sIf (gOrT (gTB (gBin (kIs false) (gVar 1) (gC .non))) (gTB (gBin (kIs false) (gVar 0) (gC .non)))) (sRet (gAndV (gBin (kIs false) (gVar 0) (gC .non)) (gBin (kIs false) (gVar 1) (gC .non)))) sNext)
    (sSeq (sIf (gOrT (gTB (gBin (kEq' true) (gFn kIsi (gCons (gVar 1) (gCons (gC (.ty "bool")) gNil))) (gFn kIsi (gCons (gVar 0) (gCons (gC (.ty "bool")) gNil))))) (gTB (gBin (kEq' true) (gFn kIsi (gCons (gVar 1) (gCons (gC (.ty "int")) gNil))) (gFn kIsi (gCons (gVar 0) (gCons (gC (.ty "int")) gNil)))))) (sRet (gC (.bl false))) sNext)
    (sRet (gAndV (gBin (kEq' false) (gFn kIsi (gCons (gVar 1) (gCons (gC (.ty "str")) gNil))) (gFn kIsi (gCons (gVar 0) (gCons (gC (.ty "str")) gNil)))) (gBin (kEq' false) (gVar 0) (gVar 1)))))))
def F_law_same : Nat → List D → M Rv
  | 0 => fun _ => fail
  | n + 1 => runB N_law_same (g_law_same (F_law_same n))
theorem sc_law_same : FnScope N_law_same ["_law_found", "_law_due"] (defScope s_law_same) := ⟨rfl, rfl, rfl, by decide +kernel, rfl, by decide +kernel, by decide +kernel⟩
theorem dg_law_same (A : Al K mg) {m : Nat} {FF : List D → M Rv} (hr : FnX P w K mg base (0 + m + 1) "_law_same" 2 FF) : DSs ⟨P, w, K, mg, base, N_law_same, defScope s_law_same, (0 + m + 1), true⟩ (defBody s_law_same) (g_law_same FF) :=
  (dss_cons (ds_if (dt_tru (de_fn ok_isi rfl A.b_isinstance bt_isinstance (da_cons (de_var (i := 1) rfl (Or.inr (Or.inl rfl))) (da_cons (de_tup (da_cons (de_ty rfl A.b_list bt_list) (da_cons (de_ty rfl A.b_tuple bt_tuple) da_nil))) da_nil)))) (dss_cons (ds_if (dt_w (dw_or (dt_cmp ok_ne' (de_fn ok_isi rfl A.b_isinstance bt_isinstance (da_cons (de_var (i := 0) rfl (Or.inr (Or.inl rfl))) (da_cons (de_ty rfl A.b_list bt_list) da_nil))) (de_fn ok_isi rfl A.b_isinstance bt_isinstance (da_cons (de_var (i := 1) rfl (Or.inr (Or.inl rfl))) (da_cons (de_ty rfl A.b_list bt_list) da_nil)))) (dw_or1 (dt_cmp ok_ne' (de_fn ok_isi rfl A.b_isinstance bt_isinstance (da_cons (de_var (i := 0) rfl (Or.inr (Or.inl rfl))) (da_cons (de_ty rfl A.b_tuple bt_tuple) da_nil))) (de_fn ok_isi rfl A.b_isinstance bt_isinstance (da_cons (de_var (i := 1) rfl (Or.inr (Or.inl rfl))) (da_cons (de_ty rfl A.b_tuple bt_tuple) da_nil))))))) (dss_one (ds_ret de_bl)) dss_nil)
    (dss_one (ds_ret (de_and (de_cmp ok_eq' (de_fn ok_len rfl A.b_len bt_len (da_cons (de_var (i := 0) rfl (Or.inr (Or.inl rfl))) da_nil)) (de_fn ok_len rfl A.b_len bt_len (da_cons (de_var (i := 1) rfl (Or.inr (Or.inl rfl))) da_nil))) (de_one (de_fn ok_all rfl A.b_all bt_all (da_cons (de_lc (own := [("_law_k", 2)]) (di_range1 rfl A.b_range (da_cons (de_fn ok_len rfl A.b_len bt_len (da_cons (de_var (i := 1) rfl (Or.inr (Or.inl rfl))) da_nil)) da_nil)) (by kernel_rfl) (dg_name (i := 2) rfl (Or.inl rfl)) dts_nil (de_call (hr.at (Nat.le_refl _)) rfl (da_cons (de_ix (de_var (i := 0) rfl (Or.inr (Or.inl rfl))) (de_var (i := 2) rfl (Or.inl rfl))) (da_cons (de_ix (de_var (i := 1) rfl (Or.inr (Or.inl rfl))) (de_var (i := 2) rfl (Or.inl rfl))) da_nil)))) da_nil))))))) dss_nil)
    (dss_cons (ds_if (dt_w (dw_or (dt_cmp ok_is (de_var (i := 1) rfl (Or.inr (Or.inl rfl))) de_non) (dw_or1 (dt_cmp ok_is (de_var (i := 0) rfl (Or.inr (Or.inl rfl))) de_non)))) (dss_one (ds_ret (de_and (de_cmp ok_is (de_var (i := 0) rfl (Or.inr (Or.inl rfl))) de_non) (de_one (de_cmp ok_is (de_var (i := 1) rfl (Or.inr (Or.inl rfl))) de_non))))) dss_nil)
    (dss_cons (ds_if (dt_w (dw_or (dt_cmp ok_ne' (de_fn ok_isi rfl A.b_isinstance bt_isinstance (da_cons (de_var (i := 1) rfl (Or.inr (Or.inl rfl))) (da_cons (de_ty rfl A.b_bool bt_bool) da_nil))) (de_fn ok_isi rfl A.b_isinstance bt_isinstance (da_cons (de_var (i := 0) rfl (Or.inr (Or.inl rfl))) (da_cons (de_ty rfl A.b_bool bt_bool) da_nil)))) (dw_or1 (dt_cmp ok_ne' (de_fn ok_isi rfl A.b_isinstance bt_isinstance (da_cons (de_var (i := 1) rfl (Or.inr (Or.inl rfl))) (da_cons (de_ty rfl A.b_int bt_int) da_nil))) (de_fn ok_isi rfl A.b_isinstance bt_isinstance (da_cons (de_var (i := 0) rfl (Or.inr (Or.inl rfl))) (da_cons (de_ty rfl A.b_int bt_int) da_nil))))))) (dss_one (ds_ret de_bl)) dss_nil)
    (dss_one (ds_ret (de_and (de_cmp ok_eq' (de_fn ok_isi rfl A.b_isinstance bt_isinstance (da_cons (de_var (i := 1) rfl (Or.inr (Or.inl rfl))) (da_cons (de_ty rfl A.b_str bt_str) da_nil))) (de_fn ok_isi rfl A.b_isinstance bt_isinstance (da_cons (de_var (i := 0) rfl (Or.inr (Or.inl rfl))) (da_cons (de_ty rfl A.b_str bt_str) da_nil)))) (de_one (de_cmp ok_eq' (de_var (i := 0) rfl (Or.inr (Or.inl rfl))) (de_var (i := 1) rfl (Or.inr (Or.inl rfl)))))))))))
theorem ok_law_same_r (A : Al K mg) : ∀ n : Nat, FnX P w K mg base (0 + n + 1) "_law_same" 2 (F_law_same n)
  | 0 => (by obtain ⟨fa, fd, F, h⟩ := A.d_law_same; exact (fnx0 F h sc_law_same rfl (fun _ _ _ _ _ _ us hl => match us, hl with | [_, _], _ => rfl)).up (by omega))
  | n + 1 => (by obtain ⟨fa, fd, F, h⟩ := A.d_law_same; exact fnxD F h sc_law_same rfl (fun _ _ _ _ _ _ us hl => match us, hl with | [_, _], _ => rfl) (dg_law_same A (ok_law_same_r A n)))
theorem ok_law_same (A : Al K mg) : FnX P w K mg base 9 "_law_same" 2 (F_law_same 8) := ok_law_same_r A 8
/-! fill_row -/
abbrev s_fill_row : Stmt := top 2
def N_fill_row : List Str := ["row", "texts", "item"]
def g_fill_row : GS := (sRet (gJoin (gC (.str [])) (gLc (gItems (gVar 0)) [2] (tName 2) gYes (gIf (gTru (gFn kIsi (gCons (gVar 2) (gCons (gC (.ty "str")) gNil)))) (gVar 2) (gBin kIx (gVar 1) (gVar 2))))))
def F_fill_row : List D → M Rv := runB N_fill_row g_fill_row
theorem sc_fill_row : FnScope N_fill_row ["row", "texts"] (defScope s_fill_row) := ⟨rfl, rfl, rfl, by decide +kernel, rfl, by decide +kernel, by decide +kernel⟩
theorem dg_fill_row (A : Al K mg) : DSs ⟨P, w, K, mg, base, N_fill_row, defScope s_fill_row, 0, true⟩ (defBody s_fill_row) g_fill_row :=
  (dss_one (ds_ret (de_join de_str (de_lc (own := [("item", 2)]) (di_any (de_var (i := 0) rfl (Or.inl rfl))) (by kernel_rfl) (dg_name (i := 2) rfl (Or.inl rfl)) dts_nil (de_if (dt_tru (de_fn ok_isi rfl A.b_isinstance bt_isinstance (da_cons (de_var (i := 2) rfl (Or.inl rfl)) (da_cons (de_ty rfl A.b_str bt_str) da_nil)))) (de_var (i := 2) rfl (Or.inl rfl)) (de_ix (de_var (i := 1) rfl (Or.inr (Or.inl rfl))) (de_var (i := 2) rfl (Or.inl rfl))))))))
theorem ok_fill_row (A : Al K mg) : FnX P w K mg base 1 "fill_row" 2 F_fill_row := by
  obtain ⟨fa, fd, F, h⟩ := A.d_fill_row
  exact fnxD F h sc_fill_row rfl (fun _ _ _ _ _ _ us hl => match us, hl with | [_, _], _ => rfl) (dg_fill_row A)
/-! law -/
abbrev s_law : Stmt := top 16
def N_law : List Str := ["_law_script", "_law_bag_here", "_law_turn", "_law_many", "_law_ink_here", "_law_row", "_law_lots", "_law_texts", "_law_due", "_law_found", "_law_kept", "_law_numbers", "_law_item", "_law_back", "_law_held", "_law_k", "_law_lot", "_law_text"]
def g_law_b2 : GS := (sOwn 11 (gCons (gLc (gItems (gIf (gTru (gFn kIsi (gCons (gVar 12) (gCons (gC (.ty "int")) gNil)))) (gBin kIx (gVar 6) (gVar 12)) (gTup gNil))) [15] (tName 15) (gTru (gFn kIsi (gCons (gVar 15) (gCons (gC (.ty "int")) gNil)))) (gVar 15)) gNil) fExtend)
def g_law_b1 : GS := (sSeq (sMany [(3, (gCall 2 F_law_pull (gCons (gVar 1) (gCons (gC (.int 5)) gNil)))), (4, (gCall 1 F_law_ink (gCons (gVar 1) gNil)))])
    (sSeq (sFrz [4] (sSet 5 (gCall 3 F_law_inked (gCons (gVar 1) (gCons (gCall 2 F_law_mixed (gCons (gVar 1) (gCons (gLstR1 (gVar 3)) gNil))) (gCons (gVar 4) gNil))))))
    (sSeq (sFrz [4] (sSet 6 (gLc (gRange1 (gCons (gVar 3) gNil)) [15] (tName 15) gYes (gCall 3 F_law_inked (gCons (gVar 1) (gCons (gCall 2 F_law_mixed (gCons (gVar 1) (gCons (gLstR1 (gCall 2 F_law_pull (gCons (gVar 1) (gCons (gC (.int 3)) gNil)))) gNil))) (gCons (gVar 4) gNil)))))))
    (sSeq (sFrz [4] (sSet 7 (gLc (gRange1 (gCons (gC (.int 3)) gNil)) [15] (tName 15) gYes (gCall 3 F_law_word (gCons (gVar 1) (gCons (gVar 4) (gCons (gC (.int 4)) gNil)))))))
    (sSeq (sFrz [5, 6, 7] (sSet 8 (gCall 2 F_law_fill (gCons (gVar 5) (gCons (gLc (gItems (gVar 6)) [16] (tName 16) gYes (gCall 2 F_law_fill (gCons (gVar 16) (gCons (gVar 7) gNil)))) gNil)))))
    (sSeq (sFrz [5, 6] (sMany [(9, (gCall 2 F_substitute_row (gCons (gVar 5) (gCons (gVar 6) gNil)))), (10, (gFn kListA (gCons (gVar 6) gNil)))]))
    (sSeq (sFrz [9, 7] (sIf (gOrT (gNotT (gTru (gCall 1 F_law_is_normal (gCons (gVar 9) gNil)))) (gOrT (gTB (gBin (kEq' true) (gCall 2 F_law_fill (gCons (gVar 9) (gCons (gVar 7) gNil))) (gVar 8))) (gTB (gBin (kEq' true) (gVar 6) (gVar 10))))) (sRet (gC (.bl false))) sNext))
    (sSeq (sSet 11 (gLst gNil))
    (sSeq (sFrz [5] (sFor (gItems (gVar 5)) (tName 12) g_law_b2))
    (sSeq (sFrz [9] (sIf (gTB (gBin (kEq' true) (gLc (gItems (gVar 9)) [12] (tName 12) (gTru (gFn kIsi (gCons (gVar 12) (gCons (gC (.ty "int")) gNil)))) (gVar 12)) (gVar 11))) (sRet (gC (.bl false))) sNext))
    (sSeq (sFrz [4] (sSet 7 (gLc (gRange1 (gCons (gVar 3) gNil)) [15] (tName 15) gYes (gCall 3 F_law_word (gCons (gVar 1) (gCons (gVar 4) (gCons (gC (.int 4)) gNil)))))))
    (sSeq (sFrz [5] (sSet 13 (gCall 1 F_mirror_row (gCons (gVar 5) gNil))))
    (sSeq (sSet 14 (gFn kListA (gCons (gVar 7) gNil)))
    (sSeq (sFrz [5, 7, 14] (sIf (gOrT (gNotT (gTru (gCall 2 (F_law_same 8) (gCons (gLst (gCons (gCall 2 F_fill_row (gCons (gVar 5) (gCons (gVar 7) gNil))) (gCons (gCall 2 F_fill_row (gCons (gFn kListA (gCons (gVar 5) gNil)) (gCons (gFn kTuple (gCons (gVar 7) gNil)) gNil))) gNil))) (gCons (gBin kMul (gLst (gCons (gCall 2 F_law_fill (gCons (gVar 5) (gCons (gVar 14) gNil))) gNil)) (gC (.int 2))) gNil))))) (gTB (gBin (kEq' true) (gVar 7) (gVar 14)))) (sRet (gC (.bl false))) sNext))
    (sSeq (sFrz [13] (sIf (gOrT (gNotT (gTru (gFn kIsi (gCons (gVar 13) (gCons (gC (.ty "tuple")) gNil))))) (gTB (gBin (kEq' true) (gCall 1 F_mirror_row (gCons (gVar 13) gNil)) (gVar 5)))) (sRet (gC (.bl false))) sNext))
    (sFrz [13, 7, 5] (sIf (gTB (gBin (kEq' true) (gCall 2 F_law_fill (gCons (gVar 13) (gCons (gLc (gItems (gVar 7)) [17] (tName 17) gYes (gUn kRev (gVar 17))) gNil))) (gUn kRev (gCall 2 F_law_fill (gCons (gVar 5) (gCons (gVar 7) gNil)))))) (sRet (gC (.bl false))) sNext)))))))))))))))))
def g_law : GS := (sSeq (sCell 1 (gCall 1 F_law_bag (gCons (gVar 0) gNil)))
    (sSeq (sFor (gRange1 (gCons (gC (.int 5)) gNil)) (tName 2) g_law_b1)
    (sRet (gAndV (gBin (kEq' false) (gCall 2 F_substitute_row (gCons (gTup (gCons (gC (.int 0)) (gCons (gC (.int 1)) gNil))) (gCons (gLst (gCons (gTup (gCons (gC (.str [97])) gNil)) (gCons (gTup (gCons (gC (.str [98])) gNil)) gNil))) gNil))) (gTup (gCons (gC (.str [97, 98])) gNil))) (gBin (kEq' false) (gCall 2 F_substitute_row (gCons (gLst gNil) (gCons (gLst gNil) gNil))) (gTup gNil))))))
def F_law : List D → M Rv := runB N_law g_law
theorem sc_law : FnScope N_law ["_law_script"] (defScope s_law) := ⟨rfl, rfl, rfl, by decide +kernel, rfl, by decide +kernel, by decide +kernel⟩
theorem dg_law_b2 (A : Al K mg) : DSs ⟨P, w, K, mg, base, N_law, defScope s_law, 9, true⟩ (bodyOf (sAt (bodyOf (sAt (defBody s_law) 1)) 8)) (g_law_b2) :=
  (dss_one (ds_extend (i := 11) rfl (Or.inl rfl) (da_cons (de_lc (own := [("_law_k", 15)]) (di_any (de_if (dt_tru (de_fn ok_isi rfl A.b_isinstance bt_isinstance (da_cons (de_var (i := 12) rfl (Or.inl rfl)) (da_cons (de_ty rfl A.b_int bt_int) da_nil)))) (de_ix (de_var (i := 6) rfl (Or.inl rfl)) (de_var (i := 12) rfl (Or.inl rfl))) (de_tup da_nil))) (by kernel_rfl) (dg_name (i := 15) rfl (Or.inl rfl)) (dts_one (dt_tru (de_fn ok_isi rfl A.b_isinstance bt_isinstance (da_cons (de_var (i := 15) rfl (Or.inl rfl)) (da_cons (de_ty rfl A.b_int bt_int) da_nil))))) (de_var (i := 15) rfl (Or.inl rfl))) da_nil)))
theorem dg_law_b1 (A : Al K mg) : DSs ⟨P, w, K, mg, base, N_law, defScope s_law, 9, true⟩ (bodyOf (sAt (defBody s_law) 1)) (g_law_b1) :=
  (dss_cons (ds_manyT (ps := [(3, (gCall 2 F_law_pull (gCons (gVar 1) (gCons (gC (.int 5)) gNil)))), (4, (gCall 1 F_law_ink (gCons (gVar 1) gNil)))]) (DNames.cons (i := 3) rfl (Or.inl rfl) (DNames.cons (i := 4) rfl (Or.inr ⟨rfl, rfl⟩) DNames.nil)) (DMany.cons (de_call ((ok_law_pull A).at (Nat.le_of_ble_eq_true rfl)) rfl (da_cons (de_var (i := 1) rfl (Or.inr (Or.inl rfl))) (da_cons de_int da_nil))) (DMany.cons (de_call ((ok_law_ink A).at (Nat.le_of_ble_eq_true rfl)) rfl (da_cons (de_var (i := 1) rfl (Or.inr (Or.inl rfl))) da_nil)) DMany.nil)))
    (dss_cons (ds_frz [4] (ds_set (i := 5) rfl (Or.inl rfl) (de_call ((ok_law_inked A).at (Nat.le_of_ble_eq_true rfl)) rfl (da_cons (de_var (i := 1) rfl (Or.inr (Or.inl rfl))) (da_cons (de_call ((ok_law_mixed A).at (Nat.le_of_ble_eq_true rfl)) rfl (da_cons (de_var (i := 1) rfl (Or.inr (Or.inl rfl))) (da_cons (de_lstR1 rfl A.b_list rfl A.b_range (de_var (i := 3) rfl (Or.inl rfl))) da_nil))) (da_cons (de_var (i := 4) rfl (Or.inr (Or.inl rfl))) da_nil))))))
    (dss_cons (ds_frz [4] (ds_setLc (k := 6) (own := [("_law_k", 15)]) rfl rfl rfl rfl (by kernel_rfl) (di_range1 rfl A.b_range (da_cons (de_var (i := 3) rfl (Or.inl rfl)) da_nil)) (by kernel_rfl) (dg_name (i := 15) rfl (Or.inl rfl)) dts_nil (de_call ((ok_law_inked A).at (Nat.le_of_ble_eq_true rfl)) rfl (da_cons (de_var (i := 1) rfl (Or.inr (Or.inl rfl))) (da_cons (de_call ((ok_law_mixed A).at (Nat.le_of_ble_eq_true rfl)) rfl (da_cons (de_var (i := 1) rfl (Or.inr (Or.inl rfl))) (da_cons (de_lstR1 rfl A.b_list rfl A.b_range (de_call ((ok_law_pull A).at (Nat.le_of_ble_eq_true rfl)) rfl (da_cons (de_var (i := 1) rfl (Or.inr (Or.inl rfl))) (da_cons de_int da_nil)))) da_nil))) (da_cons (de_var (i := 4) rfl (Or.inr (Or.inl rfl))) da_nil))))))
    (dss_cons (ds_frz [4] (ds_setLcC (k := 7) rfl rfl rfl (de_lc (own := [("_law_k", 15)]) (di_range1 rfl A.b_range (da_cons de_int da_nil)) (by kernel_rfl) (dg_name (i := 15) rfl (Or.inl rfl)) dts_nil (de_call ((ok_law_word A).at (Nat.le_of_ble_eq_true rfl)) rfl (da_cons (de_var (i := 1) rfl (Or.inr (Or.inl rfl))) (da_cons (de_var (i := 4) rfl (Or.inr (Or.inl rfl))) (da_cons de_int da_nil)))))))
    (dss_cons (ds_frz [5, 6, 7] (ds_set (i := 8) rfl (Or.inl rfl) (de_call ((ok_law_fill A).at (Nat.le_of_ble_eq_true rfl)) rfl (da_cons (de_var (i := 5) rfl (Or.inl rfl)) (da_cons (de_lc (own := [("_law_lot", 16)]) (di_any (de_var (i := 6) rfl (Or.inl rfl))) (by kernel_rfl) (dg_name (i := 16) rfl (Or.inl rfl)) dts_nil (de_call ((ok_law_fill A).at (Nat.le_of_ble_eq_true rfl)) rfl (da_cons (de_var (i := 16) rfl (Or.inl rfl)) (da_cons (de_var (i := 7) rfl (Or.inr (Or.inl rfl))) da_nil)))) da_nil)))))
    (dss_cons (ds_frz [5, 6] (ds_many2 (i := 9) (j := 10) rfl rfl rfl rfl rfl (DMany.cons (de_call ((ok_substitute_row A).at (Nat.le_of_ble_eq_true rfl)) rfl (da_cons (de_var (i := 5) rfl (Or.inl rfl)) (da_cons (de_var (i := 6) rfl (Or.inl rfl)) da_nil))) (DMany.cons (de_fnT ok_listA rfl A.b_list bt_list (da_cons (de_var (i := 6) rfl (Or.inl rfl)) da_nil)) DMany.nil))))
    (dss_cons (ds_frz [9, 7] (ds_if (dt_w (dw_or (dt_not (dt_tru (de_call ((ok_law_is_normal A).at (Nat.le_of_ble_eq_true rfl)) rfl (da_cons (de_var (i := 9) rfl (Or.inl rfl)) da_nil)))) (dw_or (dt_cmp ok_ne' (de_call ((ok_law_fill A).at (Nat.le_of_ble_eq_true rfl)) rfl (da_cons (de_var (i := 9) rfl (Or.inl rfl)) (da_cons (de_var (i := 7) rfl (Or.inr (Or.inl rfl))) da_nil))) (de_var (i := 8) rfl (Or.inl rfl))) (dw_or1 (dt_cmp ok_ne' (de_var (i := 6) rfl (Or.inl rfl)) (de_var (i := 10) rfl (Or.inl rfl))))))) (dss_one (ds_ret de_bl)) dss_nil))
    (dss_cons (ds_set (i := 11) rfl (Or.inl rfl) (de_lst da_nil))
    (dss_cons (ds_frz [5] (ds_for (di_any (de_var (i := 5) rfl (Or.inl rfl))) (dg_name (i := 12) rfl (Or.inl rfl)) (dg_law_b2 A)))
    (dss_cons (ds_frz [9] (ds_if (dt_cmp ok_ne' (de_lc (own := [("_law_item", 12)]) (di_any (de_var (i := 9) rfl (Or.inl rfl))) (by kernel_rfl) (dg_name (i := 12) rfl (Or.inl rfl)) (dts_one (dt_tru (de_fn ok_isi rfl A.b_isinstance bt_isinstance (da_cons (de_var (i := 12) rfl (Or.inl rfl)) (da_cons (de_ty rfl A.b_int bt_int) da_nil))))) (de_var (i := 12) rfl (Or.inl rfl))) (de_var (i := 11) rfl (Or.inl rfl))) (dss_one (ds_ret de_bl)) dss_nil))
    (dss_cons (ds_frz [4] (ds_setLcC (k := 7) rfl rfl rfl (de_lc (own := [("_law_k", 15)]) (di_range1 rfl A.b_range (da_cons (de_var (i := 3) rfl (Or.inl rfl)) da_nil)) (by kernel_rfl) (dg_name (i := 15) rfl (Or.inl rfl)) dts_nil (de_call ((ok_law_word A).at (Nat.le_of_ble_eq_true rfl)) rfl (da_cons (de_var (i := 1) rfl (Or.inr (Or.inl rfl))) (da_cons (de_var (i := 4) rfl (Or.inr (Or.inl rfl))) (da_cons de_int da_nil)))))))
    (dss_cons (ds_frz [5] (ds_set (i := 13) rfl (Or.inl rfl) (de_call ((ok_mirror_row A).at (Nat.le_of_ble_eq_true rfl)) rfl (da_cons (de_var (i := 5) rfl (Or.inl rfl)) da_nil))))
    (dss_cons (ds_set (i := 14) rfl (Or.inl rfl) (de_fnT ok_listA rfl A.b_list bt_list (da_cons (de_var (i := 7) rfl (Or.inr (Or.inl rfl))) da_nil)))
    (dss_cons (ds_frz [5, 7, 14] (ds_if (dt_w (dw_or (dt_not (dt_tru (de_call ((ok_law_same A).at (Nat.le_of_ble_eq_true rfl)) rfl (da_cons (de_lst (da_cons (de_call ((ok_fill_row A).at (Nat.le_of_ble_eq_true rfl)) rfl (da_cons (de_var (i := 5) rfl (Or.inl rfl)) (da_cons (de_var (i := 7) rfl (Or.inr (Or.inl rfl))) da_nil))) (da_cons (de_call ((ok_fill_row A).at (Nat.le_of_ble_eq_true rfl)) rfl (da_cons (de_fnT ok_listA rfl A.b_list bt_list (da_cons (de_var (i := 5) rfl (Or.inl rfl)) da_nil)) (da_cons (de_fnT ok_tuple rfl A.b_tuple bt_tuple (da_cons (de_var (i := 7) rfl (Or.inr (Or.inl rfl))) da_nil)) da_nil))) da_nil))) (da_cons (de_bin ok_mul (de_lst (da_cons (de_call ((ok_law_fill A).at (Nat.le_of_ble_eq_true rfl)) rfl (da_cons (de_var (i := 5) rfl (Or.inl rfl)) (da_cons (de_var (i := 14) rfl (Or.inl rfl)) da_nil))) da_nil)) de_int) da_nil))))) (dw_or1 (dt_cmp ok_ne' (de_var (i := 7) rfl (Or.inr (Or.inl rfl))) (de_var (i := 14) rfl (Or.inl rfl)))))) (dss_one (ds_ret de_bl)) dss_nil))
    (dss_cons (ds_frz [13] (ds_if (dt_w (dw_or (dt_not (dt_tru (de_fn ok_isi rfl A.b_isinstance bt_isinstance (da_cons (de_var (i := 13) rfl (Or.inl rfl)) (da_cons (de_ty rfl A.b_tuple bt_tuple) da_nil))))) (dw_or1 (dt_cmp ok_ne' (de_call ((ok_mirror_row A).at (Nat.le_of_ble_eq_true rfl)) rfl (da_cons (de_var (i := 13) rfl (Or.inl rfl)) da_nil)) (de_var (i := 5) rfl (Or.inl rfl)))))) (dss_one (ds_ret de_bl)) dss_nil))
    (dss_one (ds_frz [13, 7, 5] (ds_if (dt_cmp ok_ne' (de_call ((ok_law_fill A).at (Nat.le_of_ble_eq_true rfl)) rfl (da_cons (de_var (i := 13) rfl (Or.inl rfl)) (da_cons (de_lc (own := [("_law_text", 17)]) (di_any (de_var (i := 7) rfl (Or.inr (Or.inl rfl)))) (by kernel_rfl) (dg_name (i := 17) rfl (Or.inl rfl)) dts_nil (de_rev (de_var (i := 17) rfl (Or.inl rfl)))) da_nil))) (de_rev (de_call ((ok_law_fill A).at (Nat.le_of_ble_eq_true rfl)) rfl (da_cons (de_var (i := 5) rfl (Or.inl rfl)) (da_cons (de_var (i := 7) rfl (Or.inr (Or.inl rfl))) da_nil))))) (dss_one (ds_ret de_bl)) dss_nil))))))))))))))))))
theorem dg_law (A : Al K mg) : DSs ⟨P, w, K, mg, base, N_law, defScope s_law, 9, true⟩ (defBody s_law) g_law :=
  (dss_cons (ds_cell (i := 1) rfl (Or.inr ⟨rfl, rfl⟩) (de_call ((ok_law_bag A).at (Nat.le_of_ble_eq_true rfl)) rfl (da_cons (de_var (i := 0) rfl (Or.inl rfl)) da_nil)))
    (dss_cons (ds_for (di_range1 rfl A.b_range (da_cons de_int da_nil)) (dg_name (i := 2) rfl (Or.inl rfl)) (dg_law_b1 A))
    (dss_one (ds_ret (de_and (de_cmp ok_eq' (de_call ((ok_substitute_row A).at (Nat.le_of_ble_eq_true rfl)) rfl (da_cons (de_tup (da_cons de_int (da_cons de_int da_nil))) (da_cons (de_lst (da_cons (de_tup (da_cons de_str da_nil)) (da_cons (de_tup (da_cons de_str da_nil)) da_nil))) da_nil))) (de_tup (da_cons de_str da_nil))) (de_one (de_cmp ok_eq' (de_call ((ok_substitute_row A).at (Nat.le_of_ble_eq_true rfl)) rfl (da_cons (de_lst da_nil) (da_cons (de_lst da_nil) da_nil))) (de_tup da_nil))))))))
theorem ok_law (A : Al K mg) : FnX P w K mg base 10 "law" 1 F_law := by
  obtain ⟨fa, fd, F, h⟩ := A.d_law
  exact fnxD F h sc_law rfl (fun _ _ _ _ _ _ us hl => match us, hl with | [_], _ => rfl) (dg_law A)
end
def hd_law_bag : He.DefD := ⟨("_law_bag", none), "_law_bag", "_law_bag", defArgs (top 6), defBody (top 6), defScope (top 6), [], []⟩
def hd_law_pull : He.DefD := ⟨("_law_pull", none), "_law_pull", "_law_pull", defArgs (top 7), defBody (top 7), defScope (top 7), [], []⟩
def hd_law_of : He.DefD := ⟨("_law_of", none), "_law_of", "_law_of", defArgs (top 8), defBody (top 8), defScope (top 8), [], []⟩
def hd_law_word : He.DefD := ⟨("_law_word", none), "_law_word", "_law_word", defArgs (top 11), defBody (top 11), defScope (top 11), [], []⟩
def hd_law_inked : He.DefD := ⟨("_law_inked", none), "_law_inked", "_law_inked", defArgs (top 13), defBody (top 13), defScope (top 13), [], []⟩
def hd_law_fill : He.DefD := ⟨("_law_fill", none), "_law_fill", "_law_fill", defArgs (top 14), defBody (top 14), defScope (top 14), [], []⟩
def hd_mirror_row : He.DefD := ⟨("mirror_row", none), "mirror_row", "mirror_row", defArgs (top 4), defBody (top 4), defScope (top 4), [], []⟩
def hd_law_ink : He.DefD := ⟨("_law_ink", none), "_law_ink", "_law_ink", defArgs (top 12), defBody (top 12), defScope (top 12), [], []⟩
def hd_law_mixed : He.DefD := ⟨("_law_mixed", none), "_law_mixed", "_law_mixed", defArgs (top 9), defBody (top 9), defScope (top 9), [], []⟩
def hd_normal_row : He.DefD := ⟨("normal_row", none), "normal_row", "normal_row", defArgs (top 1), defBody (top 1), defScope (top 1), [], []⟩
def hd_substitute_row : He.DefD := ⟨("substitute_row", none), "substitute_row", "substitute_row", defArgs (top 3), defBody (top 3), defScope (top 3), [], []⟩
def hd_law_is_normal : He.DefD := ⟨("_law_is_normal", none), "_law_is_normal", "_law_is_normal", defArgs (top 15), defBody (top 15), defScope (top 15), [], []⟩
def hd_law_same : He.DefD := ⟨("_law_same", none), "_law_same", "_law_same", defArgs (top 10), defBody (top 10), defScope (top 10), [], []⟩
def hd_fill_row : He.DefD := ⟨("fill_row", none), "fill_row", "fill_row", defArgs (top 2), defBody (top 2), defScope (top 2), [], []⟩
def hd_law : He.DefD := ⟨("law", none), "law", "law", defArgs (top 16), defBody (top 16), defScope (top 16), [], []⟩
def fn : List He.DefD := [hd_law_bag, hd_law_pull, hd_law_of, hd_law_word, hd_law_inked, hd_law_fill, hd_mirror_row, hd_law_ink, hd_law_mixed, hd_normal_row, hd_substitute_row, hd_law_is_normal, hd_law_same, hd_fill_row, hd_law]
def fa : List He.Fa := [.free "list", .free "len", .free "range", .free "int", .free "tuple", .free "isinstance", .free "str", .free "reversed", .free "any", .free "all", .free "bool", .glo "_law_bag", .glo "_law_pull", .glo "_law_of", .glo "_law_word", .glo "_law_inked", .glo "_law_fill", .glo "mirror_row", .glo "_law_ink", .glo "_law_mixed", .glo "normal_row", .glo "substitute_row", .glo "_law_is_normal", .glo "_law_same", .glo "fill_row", .glo "law"]
abbrev R : PySem.W.OpenRow := PySem.W.OpenLaw.row PySem.Challenge.rw_pastewright_k06_rows_filled_and_substitu
abbrev hk : PySem.W.Hook := He.hookD 4 fa fn
def ob (s : PySem.W.SharedT) : He.AlD := He.obsDG 4 fa fn (HandSHeadRun.getT s)
theorem ob_eq (s : PySem.W.SharedT) : ob s = hk.obs s.abs := He.obsDG_eq (HandSHeadRun.getT_eq s)
def loose : List PySem.Str := ["normal_row", "fill_row", "substitute_row", "mirror_row", "_law_bag", "_law_pull", "_law_of", "_law_mixed", "_law_same", "_law_word", "_law_ink", "_law_inked", "_law_fill", "_law_is_normal"]
theorem run (w : World) : HandSHeadRun.RunEq R (PySem.W.view R.prog [16]) hk ob 1080 loose w := by
  intro os
  kernel_rfl
theorem facts {K : PySem.W.Frag} {h : Heap} {mg : Str → Option Value} (X : K.In h) (G : h.Ns mainGlobals mg) (c : He.SaysD fa fn K) : Al K mg := by
  refine ⟨?_, ?_, ?_, ?_, ?_, ?_, ?_, ?_, ?_, ?_, ?_, ?_, ?_, ?_, ?_, ?_, ?_, ?_, ?_, ?_, ?_, ?_, ?_, ?_, ?_, ?_⟩
  · exact He.free_ok X G (c.fact 0 (f := .free "list") rfl)
  · exact He.free_ok X G (c.fact 1 (f := .free "len") rfl)
  · exact He.free_ok X G (c.fact 2 (f := .free "range") rfl)
  · exact He.free_ok X G (c.fact 3 (f := .free "int") rfl)
  · exact He.free_ok X G (c.fact 4 (f := .free "tuple") rfl)
  · exact He.free_ok X G (c.fact 5 (f := .free "isinstance") rfl)
  · exact He.free_ok X G (c.fact 6 (f := .free "str") rfl)
  · exact He.free_ok X G (c.fact 7 (f := .free "reversed") rfl)
  · exact He.free_ok X G (c.fact 8 (f := .free "any") rfl)
  · exact He.free_ok X G (c.fact 9 (f := .free "all") rfl)
  · exact He.free_ok X G (c.fact 10 (f := .free "bool") rfl)
  · obtain ⟨fd, F⟩ := c.def_ 0 (d := hd_law_bag) rfl
    exact ⟨_, fd, F, He.glo_ok X G (c.fact 11 (f := .glo "_law_bag") rfl)⟩
  · obtain ⟨fd, F⟩ := c.def_ 1 (d := hd_law_pull) rfl
    exact ⟨_, fd, F, He.glo_ok X G (c.fact 12 (f := .glo "_law_pull") rfl)⟩
  · obtain ⟨fd, F⟩ := c.def_ 2 (d := hd_law_of) rfl
    exact ⟨_, fd, F, He.glo_ok X G (c.fact 13 (f := .glo "_law_of") rfl)⟩
  · obtain ⟨fd, F⟩ := c.def_ 3 (d := hd_law_word) rfl
    exact ⟨_, fd, F, He.glo_ok X G (c.fact 14 (f := .glo "_law_word") rfl)⟩
  · obtain ⟨fd, F⟩ := c.def_ 4 (d := hd_law_inked) rfl
    exact ⟨_, fd, F, He.glo_ok X G (c.fact 15 (f := .glo "_law_inked") rfl)⟩
  · obtain ⟨fd, F⟩ := c.def_ 5 (d := hd_law_fill) rfl
    exact ⟨_, fd, F, He.glo_ok X G (c.fact 16 (f := .glo "_law_fill") rfl)⟩
  · obtain ⟨fd, F⟩ := c.def_ 6 (d := hd_mirror_row) rfl
    exact ⟨_, fd, F, He.glo_ok X G (c.fact 17 (f := .glo "mirror_row") rfl)⟩
  · obtain ⟨fd, F⟩ := c.def_ 7 (d := hd_law_ink) rfl
    exact ⟨_, fd, F, He.glo_ok X G (c.fact 18 (f := .glo "_law_ink") rfl)⟩
  · obtain ⟨fd, F⟩ := c.def_ 8 (d := hd_law_mixed) rfl
    exact ⟨_, fd, F, He.glo_ok X G (c.fact 19 (f := .glo "_law_mixed") rfl)⟩
  · obtain ⟨fd, F⟩ := c.def_ 9 (d := hd_normal_row) rfl
    exact ⟨_, fd, F, He.glo_ok X G (c.fact 20 (f := .glo "normal_row") rfl)⟩
  · obtain ⟨fd, F⟩ := c.def_ 10 (d := hd_substitute_row) rfl
    exact ⟨_, fd, F, He.glo_ok X G (c.fact 21 (f := .glo "substitute_row") rfl)⟩
  · obtain ⟨fd, F⟩ := c.def_ 11 (d := hd_law_is_normal) rfl
    exact ⟨_, fd, F, He.glo_ok X G (c.fact 22 (f := .glo "_law_is_normal") rfl)⟩
  · obtain ⟨fd, F⟩ := c.def_ 12 (d := hd_law_same) rfl
    exact ⟨_, fd, F, He.glo_ok X G (c.fact 23 (f := .glo "_law_same") rfl)⟩
  · obtain ⟨fd, F⟩ := c.def_ 13 (d := hd_fill_row) rfl
    exact ⟨_, fd, F, He.glo_ok X G (c.fact 24 (f := .glo "fill_row") rfl)⟩
  · obtain ⟨fd, F⟩ := c.def_ 14 (d := hd_law) rfl
    exact ⟨_, fd, F, He.glo_ok X G (c.fact 25 (f := .glo "law") rfl)⟩
theorem law_of (hmath : ∀ ns : List Int, ns.length ≤ 63 → ∃ st', F_law [.rol (ns.map D.int)] [] = some (.ok (.fz (.bl true)), st')) : PySem.Challenge.rw_pastewright_k06_rows_filled_and_substitu.Holds := by
  w_on; o_law
  refine HandSHeadRun.head_any (r := R) (q := PySem.W.view R.prog [16]) (H := hk) (ob := ob) (M := 1080) (loose := loose) (d := HandSHeadRun.topDef R.prog 16) (kwd := []) ob_eq
    (by kernel_rfl) (fun s => by kernel_rfl) run (by kernel_rfl) (by kernel_rfl) (by kernel_rfl) (by rfl) (by first | assumption | decide +kernel) (by decide +kernel) ⟨rfl, rfl, rfl, rfl, rfl, by decide +kernel⟩ ?hw ?hc
  case hw => w_witness2
  case hc =>
    refine walkW (l := PySem.Challenge.rw_pastewright_k06_rows_filled_and_substitu) (n := 63) (k := 10) (x := "_law_script") rfl (by decide) (by kernel_rfl) ⟨rfl, by decide, by decide⟩ ?F
    intro w mg fa h Y G hmg0
    obtain ⟨K, KX, c⟩ := Y
    have hmg : mg ("law" : PySem.Str) = some (.ref fa) := by
      have e : (HandSHeadRun.topDef R.prog 16).name = ("law" : PySem.Str) := by kernel_rfl
      rw [← e]
      exact hmg0
    have A := facts KX G c
    obtain ⟨fd, F⟩ := c.def_ 14 (d := hd_law) rfl
    have e := hmg.symm.trans (He.glo_ok KX G (c.fact 25 (f := .glo "law") rfl))
    cases e
    have b := FunD.bindsA (ps := ["_law_script"]) F fun _ _ _ _ _ _ us hl => match us, hl with | [_], _ => rfl
    exact ⟨K, fd, spD ⟨K, mg⟩ 1 F_law, KX, fun s v => b s [v] rfl, law_sp hmath, fun base _ _ => fnokD F sc_law (dg_law A)⟩
end DL.k06

namespace DL.k06
open PySem PySem.Spec PyProof.Rows L2 TL
set_option autoImplicit false
theorem pull_ok {sides : Int} (h0 : 0 < sides) (h1 : divOk sides = true) (cs : List Int) (i a s t : Int) (hi : 0 ≤ i) :
    wp (F_law_pull [.loc 0, .int sides] [some (bagC cs i a s t)]) (fun r st => ∃ k, r = .fz (.int k) ∧ 0 ≤ k ∧ k < sides ∧ Bag st) noX := by
  have m1 : ∀ x : Int, 0 ≤ x % sides := fun x => Int.emod_nonneg x (by omega)
  have m2 : ∀ x : Int, x % sides < sides := fun x => Int.emod_lt_of_pos x h0
  have m3 : ∀ x : Int, (x % 2147483647).natAbs < 18446744073709551616 := fun x => by omega
  by_cases ha : a = 0
  · subst ha
    by_cases hl : i < cs.length
    · obtain ⟨n, rfl⟩ := Int.eq_ofNat_of_zero_le hi
      have hn : n < cs.length := by omega
      by_cases hc : 1000000000000000000 ≤ cs[n]
      · have hp : 0 < cs[n] := by omega
        simp [F_law_pull, g_law_pull, startD, N_law_pull, bagC, hl, hn, atI_nat, hc, hp, h0, h1, mulOk_r, m1, m2]
        exact ⟨cs, _, _, _, _, by omega, rfl⟩
      · simp [F_law_pull, g_law_pull, startD, N_law_pull, bagC, hl, hn, atI_nat, hc, h0, h1, mulOk_r, mulOk_l, m1, m2, m3, divOk_of]
        exact ⟨cs, _, _, _, _, by omega, rfl⟩
    · simp [F_law_pull, g_law_pull, startD, N_law_pull, bagC, hl, atI_nat, h0, h1, mulOk_r, mulOk_l, m1, m2, m3, divOk_of]
      exact ⟨cs, _, _, _, _, by omega, rfl⟩
  · by_cases hp : 0 < a
    · simp [F_law_pull, g_law_pull, startD, N_law_pull, bagC, ha, hp, atI_nat, h0, h1, mulOk_r, m1, m2]
      exact ⟨cs, _, _, _, _, by omega, rfl⟩
    · simp [F_law_pull, g_law_pull, startD, N_law_pull, bagC, ha, hp, atI_nat, h0, h1, mulOk_r, mulOk_l, m1, m2, m3, divOk_of]
      exact ⟨cs, _, _, _, _, by omega, rfl⟩
/-- a draw: any number below sides -/
theorem wp_pull {sides : Int} {st : Sto} {Q : Rv → Sto → Prop} {X : Exn → Sto → Prop} (h0 : 0 < sides) (h1 : sides < 2 ^ 64) (hB : Bag st) (h : ∀ (k : Nat) st', (k : Int) < sides → Bag st' → Q (.fz (.int k)) st') : wp (F_law_pull [.loc 0, .int sides] st) Q X := by
  obtain ⟨cs, i, a, s, t, hi, rfl⟩ := hB
  refine wp_mono0 (pull_ok h0 (divOk_of h0 h1) cs i a s t hi) fun r st' q => ?_
  obtain ⟨k, rfl, h2, h3, h4⟩ := q
  obtain ⟨n, rfl⟩ := Int.eq_ofNat_of_zero_le h2
  exact h n st' h3 h4
theorem wp_of {ds : List D} {c : D} {st : Sto} {Q : Rv → Sto → Prop} {X : Exn → Sto → Prop} (hc : c = .lst ds ∨ c = .tup ds) (h0 : ds ≠ []) (h1 : ds.length < 2 ^ 64) (hB : Bag st) (h : ∀ d ∈ ds, ∀ st', Bag st' → Q (.fz d) st') : wp (F_law_of [.loc 0, c] st) Q X := by
  have h2 : 0 < ds.length := List.length_pos_iff.mpr h0
  rcases hc with rfl | rfl
  all_goals
    simp [F_law_of, g_law_of, startD, N_law_of]
    refine wp_pull (by omega) (by omega) hB fun k st' hk hB' => ?_
    have hk2 : k < ds.length := by omega
    simp [atI_nat, hk2]
    exact h _ (List.getElem_mem hk2) st' hB'
theorem wp_ofS {s : List Nat} {st : Sto} {Q : Rv → Sto → Prop} {X : Exn → Sto → Prop} (h0 : s ≠ []) (h1 : s.length ≤ 16777216) (hB : Bag st) (h : ∀ c ∈ s, ∀ st', Bag st' → Q (.fz (.str [c])) st') : wp (F_law_of [.loc 0, .str s] st) Q X := by
  have h2 : 0 < s.length := List.length_pos_iff.mpr h0
  simp [F_law_of, g_law_of, startD, N_law_of, h1]
  refine wp_pull (by omega) (by omega) hB fun k st' hk hB' => ?_
  have hk2 : k < s.length := by omega
  simp [atI_nat, hk2, h1]
  exact h _ (List.getElem_mem hk2) st' hB'
theorem wp_word {ink : List Nat} {most : Nat} {st : Sto} {Q : Rv → Sto → Prop} {X : Exn → Sto → Prop} (h0 : ink ≠ []) (h1 : ink.length ≤ 16777216) (hm : most < 1000) (hB : Bag st)
    (h : ∀ w : List Nat, w.length ≤ most → (∀ c ∈ w, c ∈ ink) → ∀ st', Bag st' → Q (.fz (.str w)) st') : wp (F_law_word [.loc 0, .str ink, .int most] st) Q X := by
  simp [F_law_word, g_law_word, startD, N_law_word]
  refine wp_pull (by omega) (by omega) hB fun k st' hk hB' => ?_
  have hk2 : k ≤ most := by omega
  simp [okR, show (-4611686018427387904 : Int) ≤ (k : Int) by omega, show (k : Int) < 4611686018427387904 by omega]
  refine wp_compG (fun i acc st => Bag st ∧ ∃ w : List Nat, w.length = i ∧ (∀ c ∈ w, c ∈ ink) ∧ acc = w.map fun c => .str [c]) _ 0 [] ⟨hB', [], rfl, by simp, rfl⟩ (fun i d acc st hd hI => ?_) (fun acc st hI => ?_)
  · obtain ⟨hB2, w, hl, hw, rfl⟩ := hI
    obtain ⟨hi, rfl⟩ := range_at hd
    simp
    refine wp_ofS h0 h1 hB2 fun c hc st' hB3 => ?_
    simp
    refine guard_i (by omega) ⟨hB3, w ++ [c], by simp; omega, fun c' hc' => ?_, by simp⟩
    rcases List.mem_append.mp hc' with z | z
    · exact hw c' z
    · rw [List.mem_singleton.mp z]; exact hc
  · obtain ⟨hB2, w, hl, hw, rfl⟩ := hI
    rw [range_len] at hl
    simp [strs_mapf]
    refine guard_i (by omega) ?_
    simp
    exact h w (by omega) hw st hB2
/-- plain data against itself -/
theorem wp_same : ∀ (n : Nat) {d : D} {st : Sto} {Q : Rv → Sto → Prop} {X : Exn → Sto → Prop}, plB n d = true → Q (.fz (.bl true)) st → wp (F_law_same n [d, d] st) Q X
  | 0, d, st, Q, X, hp, h => by cases hp
  | n + 1, .non, st, Q, X, hp, h => by
    simp [F_law_same, g_law_same, startD, N_law_same]; exact h
  | n + 1, .bl b, st, Q, X, hp, h => by
    simp [F_law_same, g_law_same, startD, N_law_same]; exact h
  | n + 1, .int b, st, Q, X, hp, h => by
    simp [F_law_same, g_law_same, startD, N_law_same]; exact h
  | n + 1, .str b, st, Q, X, hp, h => by
    simp [F_law_same, g_law_same, startD, N_law_same]; exact h
  | n + 1, .lst ds, st, Q, X, hp, h => by
    have hp2 : ds.length ≤ 16777216 ∧ ∀ x ∈ ds, plB n x = true := by simpa [plB] using hp
    simp [F_law_same, g_law_same, startD, N_law_same]
    refine guard_i (okR_ok (j := (ds.length : Int)) (by omega) (by omega)) ?_
    simp
    refine wp_compR (f := fun _ => .bl true) hp2.1 (fun i hi => ?_) ?_
    · simp [atI_nat, hi]
      exact wp_same n (hp2.2 _ (List.getElem_mem hi)) (And.intro rfl rfl)
    · simp [bls_mapf]
      exact h
  | n + 1, .tup ds, st, Q, X, hp, h => by
    have hp2 : ds.length ≤ 16777216 ∧ ∀ x ∈ ds, plB n x = true := by simpa [plB] using hp
    simp [F_law_same, g_law_same, startD, N_law_same]
    refine guard_i (okR_ok (j := (ds.length : Int)) (by omega) (by omega)) ?_
    simp
    refine wp_compR (f := fun _ => .bl true) hp2.1 (fun i hi => ?_) ?_
    · simp [atI_nat, hi]
      exact wp_same n (hp2.2 _ (List.getElem_mem hi)) (And.intro rfl rfl)
    · simp [bls_mapf]
      exact h
/-- the bag of a script -/
theorem wp_bag {ns : List Int} {Q : Rv → Sto → Prop} {X : Exn → Sto → Prop} (hl : ns.length ≤ 63) (h : ∀ cs a s t i, 0 ≤ i → Q (.ow (bagC cs i a s t)) []) : wp (F_law_bag [.rol (ns.map D.int)] []) Q X := by
  have hc : ∀ o : Option Int, cutQ (ns.map D.int) none o = (cutQ ns none o).map D.int := fun o => by
    unfold cutQ
    rw [List.map_take, List.map_drop, List.length_map]
  simp [F_law_bag, g_law_bag, g_law_bag_b1, startD, N_law_bag]
  refine wpS_forG (fun _ δ st => st = [] ∧ ∃ (s : Int) (x : Option SV), δ = [some (.fz (.rol (ns.map D.int))), some (.fz (.int s)), x]) _ 0 ⟨rfl, _, _, rfl⟩ (fun i d δ st hd hI => ?_) (fun δ st hI => ?_)
  · obtain ⟨rfl, s, x, rfl⟩ := hI
    rw [hc] at hd
    obtain ⟨n, hn, rfl⟩ := List.mem_map.mp (List.mem_of_getElem? hd)
    simp [mulOk_r]
  · obtain ⟨rfl, s, x, rfl⟩ := hI
    simp [hc]
    exact h _ 0 s 0 0 (by omega)
theorem normal_row_eq {c : D} {r : List It} (hc : c = .lst (r.map It.d) ∨ c = .tup (r.map It.d)) (hl : r.length ≤ 16777216) (hL : lets r ≤ 16777216) (hf : r.all It.fine = true) {st : Sto} :
    F_normal_row [c] st = some (.ok (.fz (.tup ((norm r).map It.d))), st) := by
  refine eq_of_wp ?_
  rcases hc with rfl | rfl
  all_goals
    simp [F_normal_row, g_normal_row, startD, N_normal_row]
    refine wpS_forL (enc := It.d) (fun pre δ st' => st' = st ∧ ∃ c x, δ = [c, some (.ow (.lst ((norm pre).map It.d))), x]) r ⟨rfl, _, _, rfl⟩ (fun pre b post δ st' e hI => ?_) (fun δ st' hI => ?_)
    · obtain ⟨rfl, c, x, rfl⟩ := hI
      rw [norm_snoc]
      have h1 := norm_length pre
      have h2 := norm_lets pre
      have h3 : pre.length < 16777216 := by rw [e, List.length_append, List.length_cons] at hl; omega
      have h4 : lets pre + b.size ≤ 16777216 := by rw [e, lets_app, lets_cons] at hL; omega
      have h5 : pre.all It.fine = true ∧ b.fine = true := by rw [e] at hf; simp only [List.all_append, List.all_cons, Bool.and_eq_true] at hf; exact ⟨hf.1, hf.2.1⟩
      have h6 := okd_row (n := 63) (norm_fine h5.1)
      cases b with
      | n i =>
        simp (disch := first | assumption | omega | fail) [g_normal_row_b1, nstep, h6]
        try exact ⟨_, _, rfl⟩
      | s t =>
        simp only [size_s] at h4
        have h7 : ∀ c ∈ t, c < 1114112 := by simpa [It.fine] using h5.2
        rcases List.eq_nil_or_concat (norm pre) with e1 | ⟨l, a, e1⟩
        · by_cases z : t = []
          · simp (disch := first | assumption | omega | fail) [g_normal_row_b1, nstep, h6, e1, h7, z]
          · simp (disch := first | assumption | omega | fail) [g_normal_row_b1, nstep, h6, e1, h7, z]
        · have h8 := h1
          rw [e1] at h6 h2 h8
          simp at h6 h2 h8
          have h9 : ∀ a ∈ l, D.ok 63 a.d = true := h6.1
          cases a with
          | n i =>
            simp at h2
            by_cases z : t = []
            · simp (disch := first | assumption | omega | fail) [g_normal_row_b1, nstep, e1, h7, z, h9, deqs_nil]
            · simp (disch := first | assumption | omega | fail) [g_normal_row_b1, nstep, e1, h7, z, h9, deqs_nil]
          | s u =>
            simp at h2 h6
            simp (disch := first | assumption | omega | fail) [g_normal_row_b1, nstep, e1, h7, h9, deqs_nil, setIx_m1]
    · obtain ⟨rfl, c, x, rfl⟩ := hI
      simp
end DL.k06

namespace DL.k06
open PySem PySem.Spec PyProof.Rows L2 TL
set_option autoImplicit false
theorem fit_sum (r : List It) (tx : List (List Nat)) : ((r.map (itT tx)).map List.length).sum = (fillT r tx).length := by rw [fillT, List.length_flatten]
theorem at_str {tx : List (List Nat)} {k : Nat} (h : k < tx.length) : (tx.map D.str)[k]? = some (.str (tx.getD k [])) := by
  rw [List.getElem?_map, List.getElem?_eq_getElem h, List.getD_eq_getElem?_getD, List.getElem?_eq_getElem h]; rfl
theorem fill_row_eq {c tl : D} {r : List It} {tx : List (List Nat)} (hc : c = .lst (r.map It.d) ∨ c = .tup (r.map It.d)) (ht : tl = .lst (tx.map D.str) ∨ tl = .tup (tx.map D.str)) (hr : r.all (It.inR tx.length) = true) (hl : r.length ≤ 16777216) (hL : (fillT r tx).length ≤ 16777216) {st : Sto} :
    F_fill_row [c, tl] st = some (.ok (.fz (.str (fillT r tx))), st) := by
  refine eq_of_wp ?_
  rcases hc with rfl | rfl <;> rcases ht with rfl | rfl
  all_goals
    simp [F_fill_row, g_fill_row, startD, N_fill_row]
    refine wp_compE (enc := It.d) (fun b => .str (itT tx b)) r hl (fun b hb => ?_) ?_
    · have hb2 := List.all_eq_true.mp hr b hb
      cases b with
      | s t => simp
      | n i =>
        simp at hb2
        obtain ⟨k, rfl⟩ := Int.eq_ofNat_of_zero_le hb2.1
        have hk : k < tx.length := by omega
        simp [atI_nat, at_str hk]
    · simp [strs_mapf]
      refine guard_i ?_ ?_
      · rw [← fit_sum, List.map_map] at hL
        exact hL
      · simp [join_nil, fillT]
theorem law_fill_eq {c tl : D} {r : List It} {tx : List (List Nat)} (hc : c = .lst (r.map It.d) ∨ c = .tup (r.map It.d)) (ht : tl = .lst (tx.map D.str) ∨ tl = .tup (tx.map D.str)) (hr : r.all (It.inR tx.length) = true) (hl : r.length ≤ 16777216) (hL : (fillT r tx).length ≤ 16777216) {st : Sto} :
    F_law_fill [c, tl] st = some (.ok (.fz (.str (fillT r tx))), st) := by
  refine eq_of_wp ?_
  rcases hc with rfl | rfl <;> rcases ht with rfl | rfl
  all_goals
    simp [F_law_fill, g_law_fill, startD, N_law_fill]
    refine wp_compE (enc := It.d) (fun b => .str (itT tx b)) r hl (fun b hb => ?_) ?_
    · have hb2 := List.all_eq_true.mp hr b hb
      cases b with
      | s t => simp
      | n i =>
        simp at hb2
        obtain ⟨k, rfl⟩ := Int.eq_ofNat_of_zero_le hb2.1
        have hk : k < tx.length := by omega
        simp [atI_nat, at_str hk]
    · simp [strs_mapf]
      refine guard_i ?_ ?_
      · rw [← fit_sum, List.map_map] at hL
        exact hL
      · simp [join_nil, fillT]
end DL.k06

namespace DL.k06
open PySem PySem.Spec PyProof.Rows L2 TL
set_option autoImplicit false
/-- a list of rows -/
abbrev rowsD (rows : List (List It)) : List D := rows.map fun r => .tup (r.map It.d)
def ISub (rows : List (List It)) (st : Sto) (pre : List It) (δ : DEnv) (st' : Sto) : Prop := st' = st ∧ ∃ c x, δ = [c, some (.fz (.lst (rowsD rows))), some (.ow (.lst ((pre.flatMap (subI rows)).map It.d))), x]
theorem substitute_row_eq {c : D} {r : List It} {rows : List (List It)} (hc : c = .lst (r.map It.d) ∨ c = .tup (r.map It.d)) (hr : r.all (It.inR rows.length) = true) (hf : r.all It.fine = true) (hfs : ∀ q ∈ rows, q.all It.fine = true)
    {B : Nat} (hB1 : ∀ q ∈ rows, q.length ≤ B) (hB2 : ∀ q ∈ rows, lets q ≤ B) (hl : r.length ≤ 1000) (hL : lets r ≤ 1000) (hB : B ≤ 1000) {st : Sto} :
    F_substitute_row [c, .lst (rowsD rows)] st = some (.ok (.fz (.tup ((subst r rows).map It.d))), st) := by
  refine eq_of_wp ?_
  have n1 := length_flat r rows hB1
  have n2 := lets_flat r rows hB2
  have n3 := fine_flat hf hfs
  have n4 : r.length * (B + 1) ≤ 1000 * 1001 := Nat.mul_le_mul hl (by omega)
  have n5 : r.length * B ≤ 1000 * 1000 := Nat.mul_le_mul hl hB
  have e1 := fun st : Sto => normal_row_eq (st := st) (r := r.flatMap (subI rows)) (.inl rfl) (by omega) (by omega) n3
  rcases hc with rfl | rfl
  all_goals
    simp [F_substitute_row, g_substitute_row, startD, N_substitute_row]
    refine wpS_forL (enc := It.d) (ISub rows st) r ⟨rfl, _, _, rfl⟩ (fun pre b post δ st' e hI => ?_) (fun δ st' hI => ?_)
    · obtain ⟨rfl, c, x, rfl⟩ := hI
      have hb2 : b.inR rows.length = true := List.all_eq_true.mp hr b (by rw [e]; simp)
      have h1 : (pre.flatMap (subI rows)).length + (subI rows b).length ≤ 1000 * 1001 := by
        have n6 : (r.flatMap (subI rows)).length = (pre.flatMap (subI rows)).length + ((subI rows b).length + (post.flatMap (subI rows)).length) := by rw [e, List.flatMap_append, List.flatMap_cons, List.length_append, List.length_append]
        omega
      cases b with
      | s t =>
        simp only [subI_s, List.length_singleton] at h1
        have h2 : (pre.flatMap (subI rows)).length < 16777216 := by omega
        simp only [g_substitute_row_b1]
        simp (disch := omega) [-List.length_flatMap]
        simp [ISub]
      | n i =>
        simp at hb2
        obtain ⟨k, rfl⟩ := Int.eq_ofNat_of_zero_le hb2.1
        have hk : k < rows.length := by omega
        simp only [subI_n, Int.toNat_natCast, List.getD_eq_getElem?_getD, List.getElem?_eq_getElem hk, Option.getD_some] at h1
        simp only [g_substitute_row_b1]
        simp (disch := omega) [-List.length_flatMap, atI_nat, hk]
        simp [ISub, hk]
    · obtain ⟨rfl, c, x, rfl⟩ := hI
      simp [-List.length_flatMap, e1]
      rfl
theorem mirror_row_eq {c : D} {r : List It} (hc : c = .lst (r.map It.d) ∨ c = .tup (r.map It.d)) (hl : r.length ≤ 16777216) (hL : lets r ≤ 16777216) {st : Sto} :
    F_mirror_row [c] st = some (.ok (.fz (.tup ((mirR r).map It.d))), st) := by
  refine eq_of_wp ?_
  rcases hc with rfl | rfl
  all_goals
    simp [F_mirror_row, g_mirror_row, startD, N_mirror_row]
    rw [← List.map_reverse]
    refine wp_compE (enc := It.d) (fun b => (mirI b).d) r.reverse (by rw [List.length_reverse]; exact hl) (fun b hb => ?_) ?_
    · have := size_le (List.mem_reverse.mp hb)
      cases b with
      | s t =>
        simp only [size_s] at this
        simp (disch := omega)
      | n i => simp
    · simp [mirR]
end DL.k06

namespace DL.k06
open PySem PySem.Spec PyProof.Rows L2 TL
set_option autoImplicit false
def rngI (n : Nat) : List Int := (List.range n).map Int.ofNat
theorem rangeD_rng (n : Nat) : rangeD 0 n = (rngI n).map D.int := by
  unfold rangeD rngI
  rw [List.map_map]
  exact List.map_congr_left fun i _ => by simp only [Function.comp, Int.zero_add]; rfl
def IMx (ink : Sto → Prop) (pre : List Int) (δ : DEnv) (st : Sto) : Prop := Bag st ∧ ∃ (x1 x3 : Option SV) (ys : List Int), δ = [some (.fz (.loc 0)), x1, some (.ow (.lst (ys.map D.int))), x3] ∧ ys.Perm pre
theorem wp_mixed {xs : List Int} {st : Sto} {Q : Rv → Sto → Prop} {X : Exn → Sto → Prop} (hl : xs.length ≤ 1000) (hB : Bag st) (h : ∀ (ys : List Int) st', ys.Perm xs → Bag st' → Q (.ow (.lst (ys.map D.int))) st') : wp (F_law_mixed [.loc 0, .lst (xs.map D.int)] st) Q X := by
  simp [F_law_mixed, g_law_mixed, startD, N_law_mixed]
  refine wpS_forL (enc := D.int) (IMx fun _ => True) xs ⟨hB, _, _, [], rfl, .nil⟩ (fun pre b post δ st' e hI => ?_) (fun δ st' hI => ?_)
  · obtain ⟨hB1, x1, x3, ys, rfl, hp⟩ := hI
    have h1 : ys.length = pre.length := hp.length_eq
    have h2 : pre.length < 1000 := by rw [e, List.length_append, List.length_cons] at hl; omega
    simp [g_law_mixed_b1]
    refine wp_pull (by omega) (by omega) hB1 fun k st3 hk hB2 => ?_
    simp (disch := omega)
    refine ⟨hB2, _, _, ys.take k ++ [b] ++ ys.drop k, by simp; exact ⟨rfl, rfl⟩, ?_⟩
    have h3 : (ys.take k ++ b :: ys.drop k).Perm (b :: ys) := by
      have := List.perm_middle (a := b) (l₁ := ys.take k) (l₂ := ys.drop k)
      rwa [List.take_append_drop] at this
    have h4 : (b :: ys).Perm (pre ++ [b]) := (hp.cons b).trans (List.perm_append_comm (l₁ := [b]) (l₂ := pre))
    simpa using h3.trans h4
  · obtain ⟨hB1, x1, x3, ys, rfl, hp⟩ := hI
    simp
    exact h ys st' hp hB1
theorem wp_ink {st : Sto} {Q : Rv → Sto → Prop} {X : Exn → Sto → Prop} (hB : Bag st) (h : ∀ (ink : List Nat) st', ink ≠ [] → ink.length ≤ 26 → (∀ c ∈ ink, c ∈ letters) → Bag st' → Q (.fz (.str ink)) st') : wp (F_law_ink [.loc 0] st) Q X := by
  simp [F_law_ink, g_law_ink, startD, N_law_ink]
  refine wp_of (.inl rfl) (by simp) (by simp) hB fun d hd st1 hB1 => ?_
  simp at hd
  rcases hd with rfl | rfl | rfl | rfl | rfl <;> exact h _ st1 (by simp) (by simp) (by decide) hB1
/-- a drawn row -/
structure RowOk (ls : List Int) (r : List It) : Prop where
  nrm : Normal r
  str : strips r = ls.map It.n
  fine : r.all It.fine = true
  len : r.length ≤ 2 * ls.length + 1
  let_ : lets r ≤ 2 * ls.length + 2
theorem normal_hs {r : List It} {w : List Nat} (h : Normal r) (hl : ∀ u, r.getLast? ≠ some (.s u)) : Normal (r ++ hs w) := by
  by_cases z : w = []
  · subst z; simpa using h
  · simp only [hs, z, if_false]
    refine normal_snoc h (by simpa using z) fun a ha => ?_
    cases a with
    | n i => rfl
    | s u => exact absurd ha (hl u)
theorem rep_hs (h : List Nat) : List.replicate (if h = [] then (0 : Int) else 1).toNat (D.str h) = (hs h).map It.d := by
  by_cases z : h = [] <;> simp [hs, z]
theorem hs_length (h : List Nat) : (hs h).length ≤ 1 := by
  by_cases z : h = [] <;> simp [hs, z]
theorem hs_lets (h : List Nat) : lets (hs h) = h.length := by
  by_cases z : h = [] <;> simp [hs, z]
theorem hs_strips (h : List Nat) : strips (hs h) = [] := by
  by_cases z : h = [] <;> simp [hs, z, strips]
theorem hs_fine {h : List Nat} (hh : ∀ c ∈ h, c < 1114112) : (hs h).all It.fine = true := by
  by_cases z : h = []
  · simp [hs, z]
  · simp [hs, z]; exact hh
structure InkI (ink : List Nat) (pre : List Int) (δ : DEnv) (st : Sto) : Prop where
  bag : Bag st
  st : ∃ (x1 : Option SV) (r : List It) (x4 x5 : Option SV), δ = [some (.fz (.loc 0)), x1, some (.fz (.str ink)), some (.ow (.lst (r.map It.d))), x4, x5] ∧ Normal r ∧ strips r = pre.map It.n ∧ r.all It.fine = true ∧ r.length ≤ 2 * pre.length ∧ lets r ≤ 2 * pre.length ∧ ∀ u, r.getLast? ≠ some (.s u)
theorem wp_inked {ls : List Int} {ink : List Nat} {st : Sto} {Q : Rv → Sto → Prop} {X : Exn → Sto → Prop} (hl : ls.length ≤ 1000) (i1 : ink ≠ []) (i2 : ink.length ≤ 26) (i3 : ∀ c ∈ ink, c ∈ letters) (hB : Bag st) (h : ∀ (r : List It) st', RowOk ls r → Bag st' → Q (.fz (.tup (r.map It.d))) st') :
    wp (F_law_inked [.loc 0, .lst (ls.map D.int), .str ink] st) Q X := by
  simp (disch := omega) [F_law_inked, g_law_inked, startD, N_law_inked]
  refine wpS_forA (enc := D.int) (InkI ink) ls [] _ ⟨hB, _, [], _, _, rfl, trivial, rfl, rfl, by simp, by simp, by simp⟩ (fun pre b post δ st' e hI => ?_) (fun δ st' hI => ?_)
  · obtain ⟨hB1, x1, r, x4, x5, rfl, n1, n2, n3, n4, n5, n6⟩ := hI
    rw [List.nil_append] at e
    have h2 : pre.length < 1000 := by rw [e, List.length_append, List.length_cons] at hl; omega
    simp [g_law_inked_b1]
    refine wp_of (.inl rfl) (by simp) (by simp) hB1 fun d hd st1 hB2 => ?_
    have key : ∃ m : Nat, d = .int m ∧ m ≤ 2 := by
      simp at hd
      rcases hd with rfl | rfl | rfl
      · exact ⟨0, rfl, by omega⟩
      · exact ⟨1, rfl, by omega⟩
      · exact ⟨2, rfl, by omega⟩
    obtain ⟨m, rfl, hm⟩ := key
    simp
    refine wp_word i1 (by omega) (by omega) hB2 fun w hw1 hw2 st2 hB3 => ?_
    have hw3 : ∀ c ∈ w, c < 1114112 := fun c hc => by
      have := (mem_letters c).mp (i3 c (hw2 c hc))
      omega
    have hh := hs_length w
    simp (disch := omega)
    rw [rep_hs]
    have q1 : Normal (r ++ hs w) := normal_hs n1 n6
    refine ⟨hB3, x1, r ++ hs w ++ [.n b], _, _, by simp; exact ⟨rfl, rfl⟩, normal_snoc q1 (by simp) (fun a _ => by simp), ?_, ?_, ?_, ?_, by simp⟩
    · rw [strips_app, strips_app, n2, hs_strips]; simp [strips]
    · simp only [List.all_append, n3, hs_fine hw3]; simp
    · simp; omega
    · simp [hs_lets]; omega
  · obtain ⟨hB1, x1, r, x4, x5, rfl, n1, n2, n3, n4, n5, n6⟩ := hI
    rw [List.nil_append] at n2 n4 n5
    refine wpS_for1 ?_
    simp [g_law_inked_b1]
    refine wp_of (.inl rfl) (by simp) (by simp) hB1 fun d hd st1 hB2 => ?_
    have key : ∃ m : Nat, d = .int m ∧ m ≤ 2 := by
      simp at hd
      rcases hd with rfl | rfl | rfl
      · exact ⟨0, rfl, by omega⟩
      · exact ⟨1, rfl, by omega⟩
      · exact ⟨2, rfl, by omega⟩
    obtain ⟨m, rfl, hm⟩ := key
    simp
    refine wp_word i1 (by omega) (by omega) hB2 fun w hw1 hw2 st2 hB3 => ?_
    have hw3 : ∀ c ∈ w, c < 1114112 := fun c hc => by
      have := (mem_letters c).mp (i3 c (hw2 c hc))
      omega
    have hh := hs_length w
    simp (disch := omega) [rep_hs, wpS_for0]
    have := h (r ++ hs w) st2 ⟨normal_hs n1 n6, by rw [strips_app, n2, hs_strips]; simp, by simp only [List.all_append, n3, hs_fine hw3]; simp, by simp; omega, by simp [hs_lets]; omega⟩ hB3
    simpa using this
end DL.k06

namespace DL.k06
open PySem PySem.Spec PyProof.Rows L2 TL
set_option autoImplicit false
theorem is_normal_eq {r : List It} (hn : Normal r) (hl : r.length ≤ 16777216) {st : Sto} : F_law_is_normal [.tup (r.map It.d)] st = some (.ok (.fz (.bl true)), st) := by
  refine eq_of_wp ?_
  have e1 := inD_nil r
  rw [normal_noempty hn] at e1
  have e2 := flat_row r
  simp [F_law_is_normal, g_law_is_normal, startD, N_law_is_normal]
  refine wp_compE (enc := It.d) (fun b => .bl b.isS) r hl (fun b hb => ?_) ?_
  · cases b <;> simp
  · simp (disch := omega) [e1, -List.all_map]
    refine guard_i (by simpa using e2) ?_
    simp [e1]
    refine guard_i (okR_ok (j := (r.length : Int) - 1) (by omega) (by omega)) ?_
    simp
    refine wp_compR (f := fun _ => .bl false) (by omega) (fun i hi => ?_) ?_
    · have h1 := normal_adj hn i (by omega)
      have h2 : i < r.length := by omega
      have h3 : i + 1 < r.length := by omega
      have a3 : ∀ l : List D, atI l ((i : Int) + 1) = l[i + 1]? := fun l => atI_nat (k := i + 1)
      simp [atI_nat, a3, h2, h3]
      cases q : r[i].isS with
      | false => simp
      | true =>
        rw [q, Bool.true_and] at h1
        simp [h1, a3, h3]
    · simp [bls_mapf]

/-! the law's turn -/
structure IL (ns : List Int) (δ : DEnv) (st : Sto) : Prop where
  bag : Bag st
  sl : ∃ x2 x3 x4 x5 x6 x7 x8 x9 x10 x11 x12 x13 x14 x15 x16 x17, δ = [some (.fz (.rol (ns.map D.int))), some (.fz (.loc 0)), x2, x3, x4, x5, x6, x7, x8, x9, x10, x11, x12, x13, x14, x15, x16, x17]
theorem rngI_length (n : Nat) : (rngI n).length = n := by simp [rngI]
theorem rngI_mem {n : Nat} {i : Int} (h : i ∈ rngI n) : 0 ≤ i ∧ i < n := by
  unfold rngI at h
  obtain ⟨k, hk, rfl⟩ := List.mem_map.mp h
  have := List.mem_range.mp hk
  exact ⟨Int.natCast_nonneg k, by show (k : Int) < n; omega⟩
theorem rowok_inR {ls : List Int} {r : List It} (h : RowOk ls r) {n : Nat} (hm : ∀ i ∈ ls, 0 ≤ i ∧ i < n) : r.all (It.inR n) = true := by
  refine inR_strips fun x hx => ?_
  rw [h.str] at hx
  obtain ⟨i, hi, rfl⟩ := List.mem_map.mp hx
  have := hm i hi
  simp; omega
/-- a row of the first n strips in some order -/
theorem wp_row {n : Nat} {ink : List Nat} {st : Sto} {Q : Rv → Sto → Prop} {X : Exn → Sto → Prop} (hn : n ≤ 4) (i1 : ink ≠ []) (i2 : ink.length ≤ 26) (i3 : ∀ c ∈ ink, c ∈ letters) (hB : Bag st)
    (h : ∀ (r : List It) st', Normal r → r.all (It.inR n) = true → r.all It.fine = true → r.length ≤ 9 → lets r ≤ 10 → Bag st' → Q (.fz (.tup (r.map It.d))) st') :
    wp (F_law_mixed [.loc 0, .lst (rangeD 0 n)] st) (fun r st1 => ∃ ys : List Int, r = .ow (.lst (ys.map D.int)) ∧ wp (F_law_inked [.loc 0, .lst (ys.map D.int), .str ink] st1) Q X) X := by
  rw [rangeD_rng]
  refine wp_mixed (by rw [rngI_length]; omega) hB fun ys st1 hp hB1 => ⟨ys, rfl, ?_⟩
  have hl := hp.length_eq
  rw [rngI_length] at hl
  refine wp_inked (by omega) i1 i2 i3 hB1 fun r st2 hr hB2 => ?_
  have h1 := hr.len
  have h2 := hr.let_
  exact h r st2 hr.nrm (rowok_inR hr fun i hi => rngI_mem (hp.mem_iff.mp hi)) hr.fine (by omega) (by omega) hB2
end DL.k06

namespace DL.k06
open PySem PySem.Spec PyProof.Rows L2 TL
set_option autoImplicit false
theorem same_eq (n : Nat) {d : D} (h : plB n d = true) (st : Sto) : F_law_same n [d, d] st = some (.ok (.fz (.bl true)), st) := by
  refine eq_of_wp ?_
  refine wp_same n h ?_
  exact And.intro rfl rfl
theorem plB_ss (s : List Nat) : plB 8 (.lst [.str s, .str s]) = true := by simp [plB]
structure GoodRow (n : Nat) (r : List It) : Prop where
  nrm : Normal r
  inr : r.all (It.inR n) = true
  fine : r.all It.fine = true
  len : r.length ≤ 9
  let_ : lets r ≤ 10
theorem good_of {n : Nat} {ys : List Int} {r : List It} (hp : ys.Perm (rngI n)) (hn : n ≤ 4) (hr : RowOk ys r) : GoodRow n r := by
  have hl := hp.length_eq
  rw [rngI_length] at hl
  have h1 := hr.len
  have h2 := hr.let_
  exact ⟨hr.nrm, rowok_inR hr fun i hi => rngI_mem (hp.mem_iff.mp hi), hr.fine, by omega, by omega⟩
theorem perm_len {n : Nat} {ys : List Int} (hp : ys.Perm (rngI n)) : ys.length = n := by
  have hl := hp.length_eq
  rwa [rngI_length] at hl
theorem ok_row {n : Nat} {r : List It} (h : GoodRow n r) : ∀ x ∈ r, D.ok 62 x.d = true := by
  have := okd_row (n := 62) h.fine
  simpa using this
def ILots (i : Nat) (acc : List D) (st : Sto) : Prop := Bag st ∧ ∃ rows : List (List It), rows.length = i ∧ (∀ q ∈ rows, GoodRow 3 q) ∧ acc = rowsD rows
def ITx (i : Nat) (acc : List D) (st : Sto) : Prop := Bag st ∧ ∃ tx : List (List Nat), tx.length = i ∧ (∀ q ∈ tx, q.length ≤ 4 ∧ ∀ c ∈ q, c < 1114112) ∧ acc = tx.map D.str
theorem chars {ink w : List Nat} (i3 : ∀ c ∈ ink, c ∈ letters) (h : ∀ c ∈ w, c ∈ ink) : ∀ c ∈ w, c < 1114112 := fun c hc => by
  have := (mem_letters c).mp (i3 c (h c hc))
  omega
def INum (rows : List (List It)) (st0 : Sto) (pre : List It) (δ : DEnv) (st : Sto) : Prop := st = st0 ∧ ∃ x0 x1 x2 x3 x4 x5 x7 x8 x9 x10 x12 x13 x14 x15 x16 x17, δ = [x0, x1, x2, x3, x4, x5, some (.fz (.lst (rowsD rows))), x7, x8, x9, x10, some (.ow (.lst ((strips (pre.flatMap (subI rows))).map It.d))), x12, x13, x14, x15, x16, x17]
theorem inR_subst {r : List It} {rows : List (List It)} {n : Nat} (h : ∀ q ∈ rows, q.all (It.inR n) = true) : (subst r rows).all (It.inR n) = true := by
  refine inR_strips fun x hx => ?_
  unfold subst at hx
  rw [strips_norm] at hx
  have hx2 := (List.mem_filter.mp hx).1
  obtain ⟨y, hy, hxy⟩ := List.mem_flatMap.mp hx2
  cases y with
  | s t =>
    simp at hxy
    subst hxy
    rfl
  | n i =>
    rw [subI_n, List.getD_eq_getElem?_getD] at hxy
    cases q : rows[i.toNat]? with
    | none => rw [q] at hxy; simp at hxy
    | some z =>
      rw [q] at hxy
      exact List.all_eq_true.mp (h z (List.mem_of_getElem? q)) x hxy
theorem turn (ns : List Int) {δ : DEnv} {st : Sto} (h : IL ns δ st) {R : Fl → Sto → Prop} (i : Int) (hn : ∀ δ st, IL ns δ st → R (.nx δ) st) : wpS (g_law_b1 (δ.set 2 (some (.fz (.int i)))) st) R := by
  obtain ⟨hB, x2, x3, x4, x5, x6, x7, x8, x9, x10, x11, x12, x13, x14, x15, x16, x17, rfl⟩ := h
  simp [g_law_b1]
  refine wp_pull (by omega) (by omega) hB fun n st1 hn5 hB1 => ?_
  have hn4 : n ≤ 4 := by omega
  simp
  refine wp_ink hB1 fun ink st2 i1 i2 i3 hB2 => ?_
  have ho : okR (n : Int) = true := okR_ok (by omega) (by omega)
  simp (disch := omega) [ho]
  rw [rangeD_rng]
  refine wp_mixed (by rw [rngI_length]; omega) hB2 fun ys st3 hp hB3 => ?_
  simp
  have hys := perm_len hp
  refine wp_inked (by omega) i1 i2 i3 hB3 fun r st4 hr hB4 => ?_
  have gr := good_of hp hn4 hr
  clear hr hp hys ys
  simp [ho]
  refine wp_compG (fun i acc st => ILots i acc st) _ 0 [] ⟨hB4, [], rfl, by simp, rfl⟩ (fun i d acc st hd hI => ?_) (fun acc st5 hI => ?_)
  · obtain ⟨hB5, rows, hl, hrows, rfl⟩ := hI
    obtain ⟨hi, rfl⟩ := range_at hd
    simp
    refine wp_pull (by omega) (by omega) hB5 fun m st6 hm hB6 => ?_
    have hom : okR (m : Int) = true := okR_ok (by omega) (by omega)
    simp (disch := omega) [hom]
    rw [rangeD_rng]
    refine wp_mixed (by rw [rngI_length]; omega) hB6 fun ys st3 hp hB3 => ?_
    simp
    have hys := perm_len hp
    refine wp_inked (by omega) i1 i2 i3 hB3 fun q st4 hr hB4 => ?_
    have gq := good_of hp (by omega) hr
    have gq3 : GoodRow 3 q := ⟨gq.nrm, inR_mono (by omega) gq.inr, gq.fine, gq.len, gq.let_⟩
    simp (disch := omega)
    refine ⟨hB4, rows ++ [q], by simp; omega, fun y hy => ?_, by simp⟩
    rcases List.mem_append.mp hy with z | z
    · exact hrows y z
    · rw [List.mem_singleton.mp z]; exact gq3
  obtain ⟨hB5, rows, hl, hrows, rfl⟩ := hI
  rw [range_len] at hl
  have hl : rows.length = n := by omega
  simp [show okR 3 = true by decide]
  refine wp_compG (fun i acc st => ITx i acc st) _ 0 [] ⟨hB5, [], rfl, by simp, rfl⟩ (fun i d acc st hd hI => ?_) (fun acc st6 hI => ?_)
  · obtain ⟨hB6, tx, hl2, htx, rfl⟩ := hI
    obtain ⟨hi, rfl⟩ := range_at hd
    simp
    refine wp_word (most := 4) i1 (by omega) (by omega) hB6 fun w hw1 hw2 st7 hB7 => ?_
    simp (disch := omega)
    refine ⟨hB7, tx ++ [w], by simp; omega, fun y hy => ?_, by simp⟩
    rcases List.mem_append.mp hy with z | z
    · exact htx y z
    · rw [List.mem_singleton.mp z]; exact ⟨hw1, chars i3 hw2⟩
  obtain ⟨hB6, tx, hl2, htx, rfl⟩ := hI
  rw [range_len] at hl2
  have hl2 : tx.length = 3 := by omega
  have bnd : ∀ (q : List It), GoodRow 3 q → (fillT q tx).length ≤ 100 := fun q hq => by
    have := fill_len q tx (B := 4) fun z hz => (htx z hz).1
    have h1 := hq.len
    have h2 := hq.let_
    omega
  have ef : ∀ q ∈ rows, ∀ st : Sto, F_law_fill [.tup (q.map It.d), .lst (tx.map D.str)] st = some (.ok (.fz (.str (fillT q tx))), st) := fun q hq st => by
    have g := hrows q hq
    have h1 := g.len
    have h2 := bnd q g
    exact law_fill_eq (.inr rfl) (.inl rfl) (by rw [hl2]; exact g.inr) (by omega) (by omega)
  simp
  refine wp_compE (enc := fun q : List It => .tup (q.map It.d)) (fun q => .str (fillT q tx)) rows (by unfold LIM; omega) (fun q hq => ?_) ?_
  · simp [ef q hq]
  have dl : (fillT r (rows.map fun q => fillT q tx)).length ≤ 2000 := by
    have := fill_len r (rows.map fun q => fillT q tx) (B := 100) fun z hz => by
      obtain ⟨q, hq, rfl⟩ := List.mem_map.mp hz
      exact bnd q (hrows q hq)
    have h1 := gr.len
    have h2 := gr.let_
    omega
  have e1 : ∀ st : Sto, F_law_fill [.tup (r.map It.d), .lst (rows.map fun q => .str (fillT q tx))] st = some (.ok (.fz (.str (fillT r (rows.map fun q => fillT q tx)))), st) := fun st => by
    have h1 := gr.len
    have := law_fill_eq (st := st) (c := .tup (r.map It.d)) (tl := .lst ((rows.map fun q => fillT q tx).map D.str)) (.inr rfl) (.inl rfl) (by rw [List.length_map, hl]; exact gr.inr) (by omega) (by omega)
    rw [List.map_map] at this
    exact this
  have e2 : ∀ st : Sto, F_substitute_row [.tup (r.map It.d), .lst (rowsD rows)] st = some (.ok (.fz (.tup ((subst r rows).map It.d))), st) := fun st => by
    have h1 := gr.len
    have h2 := gr.let_
    exact substitute_row_eq (B := 10) (.inr rfl) (by rw [hl]; exact gr.inr) gr.fine (fun q hq => (hrows q hq).fine) (fun q hq => by have := (hrows q hq).len; omega) (fun q hq => (hrows q hq).let_) (by omega) (by omega) (by omega)
  have nl : (subst r rows).length ≤ 1000 := by
    have h1 := norm_length (r.flatMap (subI rows))
    have h2 := length_flat r rows (B := 9) fun q hq => (hrows q hq).len
    have h3 := gr.len
    unfold subst
    omega
  have e3 : ∀ st : Sto, F_law_is_normal [.tup ((subst r rows).map It.d)] st = some (.ok (.fz (.bl true)), st) := fun st => is_normal_eq (r := subst r rows) (norm_normal _) (by omega)
  have e4 : ∀ st : Sto, F_law_fill [.tup ((subst r rows).map It.d), .lst (tx.map D.str)] st = some (.ok (.fz (.str (fillT r (rows.map fun q => fillT q tx)))), st) := fun st => by
    have := law_fill_eq (st := st) (c := .tup ((subst r rows).map It.d)) (tl := .lst (tx.map D.str)) (.inr rfl) (.inl rfl) (by rw [hl2]; exact inR_subst fun q hq => (hrows q hq).inr) (by omega) (by rw [fill_subst]; omega)
    rw [fill_subst] at this
    exact this
  have dr : deqs (rowsD rows) (rowsD rows) = true := deqs_refl (n := 63) fun d hd => by
    obtain ⟨q, hq, rfl⟩ := List.mem_map.mp hd
    simpa using ok_row (hrows q hq)
  have ok63 : ∀ a ∈ rows, ∀ x ∈ a, D.ok 62 x.d = true := fun a ha => ok_row (hrows a ha)
  simp [e1, e2, e3, e4]
  refine guard_i ok63 ?_
  simp [dr]
  have lr := gr.len
  refine wpS_forL (enc := It.d) (fun pre => Inv2 st6 fun a b => [_, _, _, _, _, _, some (.fz (.lst (rowsD rows))), _, _, _, _, some (.ow (.lst ((strips (pre.flatMap (subI rows))).map It.d))), a, _, _, b, _, _]) r ⟨rfl, _, _, rfl⟩ (fun pre b post δ st' e hI => ?_) (fun δ st' hI => ?_)
  · obtain ⟨rfl, x12, x15, rfl⟩ := hI
    have hb2 : b.inR rows.length = true := by rw [hl]; exact List.all_eq_true.mp gr.inr b (by rw [e]; simp)
    have sl : (strips (pre.flatMap (subI rows))).length ≤ 200 := by
      have h1 : (strips (pre.flatMap (subI rows))).length ≤ (pre.flatMap (subI rows)).length := List.length_filter_le ..
      have h2 := length_flat pre rows (B := 9) fun q hq => (hrows q hq).len
      have h3 : pre.length ≤ 9 := by rw [e, List.length_append, List.length_cons] at lr; omega
      omega
    cases b with
    | s t =>
      have es : strips ((pre ++ [It.s t]).flatMap (subI rows)) = strips (pre.flatMap (subI rows)) := by rw [List.flatMap_append, strips_app]; simp [strips]
      rw [es]
      simp (disch := omega) [g_law_b2]
      exact ⟨rfl, _, _, rfl⟩
    | n i =>
      simp at hb2
      obtain ⟨k, rfl⟩ := Int.eq_ofNat_of_zero_le hb2.1
      have hk : k < rows.length := by omega
      have gk := hrows rows[k] (List.getElem_mem hk)
      have lk := gk.len
      have es : strips ((pre ++ [It.n k]).flatMap (subI rows)) = strips (pre.flatMap (subI rows)) ++ strips rows[k] := by rw [List.flatMap_append, strips_app]; simp [hk]
      have sk : (strips rows[k]).length ≤ rows[k].length := List.length_filter_le ..
      rw [es, List.map_append]
      simp (disch := omega) [g_law_b2, atI_nat, hk]
      refine wp_compF (enc := It.d) (fun x => !x.isS) It.d rows[k] (by unfold LIM; omega) (fun b hb => ?_) ?_
      · cases b <;> simp
      rw [show (rows[k].filter fun x => !x.isS) = strips rows[k] from rfl]
      simp (disch := omega)
      exact ⟨rfl, _, _, rfl⟩
  obtain ⟨rfl, x12, x15, rfl⟩ := hI
  have ls : (strips (subst r rows)).length ≤ 1000 := by
    have : (strips (subst r rows)).length ≤ (subst r rows).length := List.length_filter_le ..
    omega
  have es : strips (subst r rows) = strips (r.flatMap (subI rows)) := strips_norm _
  have dn : deqs ((strips (subst r rows)).map It.d) ((strips (subst r rows)).map It.d) = true := by rw [deqs_row]; simp
  have on : ∀ x ∈ strips (subst r rows), D.ok 63 x.d = true := fun x hx => by
    have := (List.mem_filter.mp hx).2
    cases x with
    | s t => simp at this
    | n i => simp
  have okr : ∀ x ∈ r, D.ok 63 x.d = true := by
    have := okd_row (n := 63) gr.fine
    simpa using this
  have drr : deqs (r.map It.d) (r.map It.d) = true := by rw [deqs_row]; simp
  rw [← es]
  simp
  refine wp_compF (enc := It.d) (fun x => !x.isS) It.d (subst r rows) (by unfold LIM; omega) (fun b hb => ?_) ?_
  · cases b <;> simp
  rw [show ((subst r rows).filter fun x => !x.isS) = strips (subst r rows) from rfl]
  simp
  refine guard_i on ?_
  simp [dn, ho]
  refine wp_compG (fun i acc st => ITx i acc st) _ 0 [] ⟨hB6, [], rfl, by simp, rfl⟩ (fun i d acc st hd hI => ?_) (fun acc st7 hI => ?_)
  · obtain ⟨hB6, tx, hl2, htx, rfl⟩ := hI
    obtain ⟨hi, rfl⟩ := range_at hd
    simp
    refine wp_word (most := 4) i1 (by omega) (by omega) hB6 fun w hw1 hw2 st7 hB7 => ?_
    simp (disch := omega)
    refine ⟨hB7, tx ++ [w], by simp; omega, fun y hy => ?_, by simp⟩
    rcases List.mem_append.mp hy with z | z
    · exact htx y z
    · rw [List.mem_singleton.mp z]; exact ⟨hw1, chars i3 hw2⟩
  obtain ⟨hB7, ty, hl3, hty, rfl⟩ := hI
  rw [range_len] at hl3
  have hl3 : ty.length = n := by omega
  have ml := mir_lets r
  have lm : (mirR r).length = r.length := by simp [mirR]
  have lr2 := gr.let_
  have m1 : ∀ st : Sto, F_mirror_row [.tup (r.map It.d)] st = some (.ok (.fz (.tup ((mirR r).map It.d))), st) := fun st => mirror_row_eq (.inr rfl) (by omega) (by omega)
  have m2 : ∀ st : Sto, F_mirror_row [.tup ((mirR r).map It.d)] st = some (.ok (.fz (.tup (r.map It.d))), st) := fun st => by
    have := mirror_row_eq (st := st) (c := .tup ((mirR r).map It.d)) (r := mirR r) (.inr rfl) (by omega) (by omega)
    rw [mirR_mirR] at this
    exact this
  have lf : (fillT r ty).length ≤ 100 := by
    have := fill_len r ty (B := 4) fun z hz => (hty z hz).1
    omega
  have inr1 : r.all (It.inR ty.length) = true := by rw [hl3]; exact gr.inr
  have f1 : ∀ st : Sto, F_fill_row [.tup (r.map It.d), .lst (ty.map D.str)] st = some (.ok (.fz (.str (fillT r ty))), st) := fun st => fill_row_eq (.inr rfl) (.inl rfl) inr1 (by omega) (by omega)
  have f2 : ∀ st : Sto, F_fill_row [.lst (r.map It.d), .tup (ty.map D.str)] st = some (.ok (.fz (.str (fillT r ty))), st) := fun st => fill_row_eq (.inl rfl) (.inr rfl) inr1 (by omega) (by omega)
  have f3 : ∀ st : Sto, F_law_fill [.tup (r.map It.d), .lst (ty.map D.str)] st = some (.ok (.fz (.str (fillT r ty))), st) := fun st => law_fill_eq (.inr rfl) (.inl rfl) inr1 (by omega) (by omega)
  have inr2 : (mirR r).all (It.inR (ty.map List.reverse).length) = true := by
    rw [List.length_map]
    refine inR_strips fun x hx => ?_
    have hx1 := (List.mem_filter.mp hx)
    obtain ⟨y, hy, rfl⟩ := List.mem_map.mp hx1.1
    have := List.all_eq_true.mp inr1 y (List.mem_reverse.mp hy)
    cases y with
    | s t => rfl
    | n i => exact this
  have f4 : ∀ st : Sto, F_law_fill [.tup ((mirR r).map It.d), .lst (ty.map fun t => .str t.reverse)] st = some (.ok (.fz (.str (fillT r ty).reverse)), st) := fun st => by
    have := law_fill_eq (st := st) (c := .tup ((mirR r).map It.d)) (tl := .lst ((ty.map List.reverse).map D.str)) (.inr rfl) (.inl rfl) inr2 (by omega) (by rw [fill_mir, List.length_reverse]; omega)
    rw [fill_mir, List.map_map] at this
    exact this
  have dt : deqs (ty.map D.str) (ty.map D.str) = true := by rw [deqs_map (f := D.str) fun a b => by simp]; simp
  have okt : ∀ x ∈ ty, ∀ c ∈ x, c < 1114112 := fun x hx => (hty x hx).2
  have s1 : ∀ st : Sto, F_law_same 8 [.lst [.str (fillT r ty), .str (fillT r ty)], .lst [.str (fillT r ty), .str (fillT r ty)]] st = some (.ok (.fz (.bl true)), st) := fun st => same_eq 8 (plB_ss _) st
  simp (disch := omega) [m1, m2, f1, f2, f3, f4, s1]
  simp (disch := omega) [dt, m2]
  simp (disch := omega) [drr]
  refine wp_compE (enc := D.str) (fun t => .str t.reverse) ty (by unfold LIM; omega) (fun b hb => ?_) ?_
  · have := (hty b hb).1
    simp (disch := omega)
  simp (disch := omega) [f4, f3]
  exact hn _ _ ⟨hB7, _, _, _, _, _, _, _, _, _, _, _, _, _, _, _, _, rfl⟩
theorem math (ns : List Int) (hl : ns.length ≤ 63) : ∃ st', F_law [.rol (ns.map D.int)] [] = some (.ok (.fz (.bl true)), st') := by
  suffices h : wp (F_law [.rol (ns.map D.int)] []) (fun r _ => r = .fz (.bl true)) noX by
    obtain ⟨r, st, e, rfl⟩ := DL.wp_of h
    exact ⟨st, e⟩
  simp [F_law, g_law, startD, N_law]
  refine wp_bag hl fun cs a s t i hi => ?_
  simp
  refine guard_i (okR_ok (j := 5) (by omega) (by omega)) ?_
  simp
  refine wpS_forG (fun _ δ st => IL ns δ st) _ 0 ⟨⟨cs, i, a, s, t, hi, rfl⟩, _, _, _, _, _, _, _, _, _, _, _, _, _, _, _, _, rfl⟩ (fun i d δ st hd hI => ?_) (fun δ st hI => ?_)
  · obtain ⟨hi, rfl⟩ := range_at hd
    exact turn ns hI _ fun _ _ h => h
  · obtain ⟨hB, x2, x3, x4, x5, x6, x7, x8, x9, x10, x11, x12, x13, x14, x15, x16, x17, rfl⟩ := hI
    have e1 : ∀ st : Sto, F_substitute_row [.tup [.int 0, .int 1], .lst [.tup [.str [97]], .tup [.str [98]]]] st = some (.ok (.fz (.tup [.str [97, 98]])), st) := fun st => by
      have := substitute_row_eq (st := st) (c := .tup [.int 0, .int 1]) (r := [.n 0, .n 1]) (rows := [[.s [97]], [.s [98]]]) (B := 1) (.inr rfl) (by decide) rfl (by decide) (by decide) (by decide) (by decide) (by decide) (by decide)
      exact this
    have e2 : ∀ st : Sto, F_substitute_row [.lst [], .lst []] st = some (.ok (.fz (.tup [])), st) := fun st => by
      have := substitute_row_eq (st := st) (c := .lst []) (r := []) (rows := []) (B := 1) (.inl rfl) (by decide) rfl (by decide) (by decide) (by decide) (by decide) (by decide) (by decide)
      exact this
    simp [e1, e2]
end DL.k06

theorem PySem.Challenge.cw_pastewright_k06_rows_filled_and_substitu_holds : PySem.Challenge.rw_pastewright_k06_rows_filled_and_substitu.Holds := by
  exact DL.k06.law_of DL.k06.math
