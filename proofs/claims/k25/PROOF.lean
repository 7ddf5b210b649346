import PyProof.Rows.All
import Wide.All
import OpenK.AllK
import Wide.FinOn
import HandS.ForMost
import HandS.ForExc
import HandS.Lambda
import HandS.Wide
import HandS.TupMul
import HandS.TupAny
import HandS.Style
import HandS.IsInst
import HandS.Conv
import HandS.More
import HandS.Rev
import HandS.Zip
import HandS.SortInts
import HandS.HeadEnd
import HandS.Defaults
import HandS.Head0
import HandS.Head1
import HandS.Head2
import HandS.HeadHook1
import HandS.HeadHook2
import PyProof.ListStr
import KE.GoesMore
import KE.GoesEnum
import HandS.CallSlots
import HandS.Replace
import HandS.DictComp
import HandS.HeadHook3
import HandS.HeadHook4
import HandS.ExcInit
import HandS.ExcField
import HandS.ExcValue
import KE.KTryMore
import HandS.EndTab
import HandS.FStr
import PyProof.CallFns
import PyProof.NeKinds
import PyProof.LongRange
import HandS.SetBool
import HandS.Strs
import PySem.Challenge.RW_pastewright_k25_maps_of_words
set_option Elab.async false
set_option linter.all false
set_option maxRecDepth 100000
set_option maxHeartbeats 4000000
namespace DL.k25
open PySem PySem.Spec PyProof.Rows L2 TL
set_option autoImplicit false
def top (i : Nat) : Stmt := PySem.Challenge.pw_pastewright_k25_maps_of_words.main.body.getD i (.Pass ⟨0, 0, 0, 0⟩)
def hd_law_bag : He.DefD := ⟨("_law_bag", none), "_law_bag", "_law_bag", defArgs (top 15), defBody (top 15), defScope (top 15), [], []⟩
def hd_law_pull : He.DefD := ⟨("_law_pull", none), "_law_pull", "_law_pull", defArgs (top 16), defBody (top 16), defScope (top 16), [], []⟩
def hd_law_of : He.DefD := ⟨("_law_of", none), "_law_of", "_law_of", defArgs (top 17), defBody (top 17), defScope (top 17), [], []⟩
def hd_law_pattern_plan : He.DefD := ⟨("_law_pattern_plan", none), "_law_pattern_plan", "_law_pattern_plan", defArgs (top 21), defBody (top 21), defScope (top 21), [], []⟩
def hd_is_word : He.DefD := ⟨("is_word", none), "is_word", "is_word", defArgs (top 7), defBody (top 7), defScope (top 7), [], []⟩
def hd_is_alphabet : He.DefD := ⟨("is_alphabet", none), "is_alphabet", "is_alphabet", defArgs (top 8), defBody (top 8), defScope (top 8), [], []⟩
def hd_Pattern___init__ : He.DefD := ⟨("Pattern", some "__init__"), "__init__", "Pattern.__init__", defArgs (inClass (top 12) 0), defBody (inClass (top 12) 0), defScope (inClass (top 12) 0), [], []⟩
def hd_law_pattern : He.DefD := ⟨("_law_pattern", none), "_law_pattern", "_law_pattern", defArgs (top 22), defBody (top 22), defScope (top 22), [], []⟩
def hd_join_maps : He.DefD := ⟨("join_maps", none), "join_maps", "join_maps", defArgs (top 13), defBody (top 13), defScope (top 13), [], []⟩
def hd_law_reads : He.DefD := ⟨("_law_reads", none), "_law_reads", "_law_reads", defArgs (top 19), defBody (top 19), defScope (top 19), [], []⟩
def hd_law_word : He.DefD := ⟨("_law_word", none), "_law_word", "_law_word", defArgs (top 20), defBody (top 20), defScope (top 20), [], []⟩
def hd_law_same : He.DefD := ⟨("_law_same", none), "_law_same", "_law_same", defArgs (top 18), defBody (top 18), defScope (top 18), [], []⟩
def hd_Pattern_map_of : He.DefD := ⟨("Pattern", some "map_of"), "map_of", "Pattern.map_of", defArgs (inClass (top 12) 7), defBody (inClass (top 12) 7), defScope (inClass (top 12) 7), [], []⟩
def hd_Pattern_matches : He.DefD := ⟨("Pattern", some "matches"), "matches", "Pattern.matches", defArgs (inClass (top 12) 8), defBody (inClass (top 12) 8), defScope (inClass (top 12) 8), [], []⟩
def hd_law_map : He.DefD := ⟨("_law_map", none), "_law_map", "_law_map", defArgs (top 23), defBody (top 23), defScope (top 23), [], []⟩
def hd_law_matches : He.DefD := ⟨("_law_matches", none), "_law_matches", "_law_matches", defArgs (top 24), defBody (top 24), defScope (top 24), [], []⟩
def hd_law : He.DefD := ⟨("law", none), "law", "law", defArgs (top 25), defBody (top 25), defScope (top 25), [], []⟩
def fn : List He.DefD := ([hd_law_bag, hd_law_pull, hd_law_of, hd_law_pattern_plan, hd_is_word, hd_is_alphabet, hd_Pattern___init__, hd_law_pattern, hd_join_maps, hd_law_reads, hd_law_word, hd_law_same, hd_Pattern_map_of, hd_Pattern_matches, hd_law_map, hd_law_matches, hd_law] : List He.DefD)
def fa : List He.Fa := ([.free "list", .free "len", .free "range", .free "tuple", .free "all", .free "sorted", .free "isinstance", .free "bool", .free "int", .free "str", .str "LETTERS" "abcdefghijklmnopqrstuvwxyz", .int "MAX_ALPHABET" (4), .int "MAX_STATES" (4), .int "DEAD" (-1), .glo "_law_bag", .glo "_law_pull", .glo "_law_of", .glo "_law_pattern_plan", .glo "is_word", .glo "is_alphabet", .glo "_law_pattern", .glo "join_maps", .glo "_law_reads", .glo "_law_word", .glo "_law_same", .glo "_law_map", .glo "_law_matches", .glo "law", .glo "Pattern", .cls "Pattern"] : List He.Fa) ++ ([.noat "Pattern" "letters", .noat "Pattern" "table", .noat "Pattern" "ends", .mkr "Pattern", .meth "Pattern" "map_of", .meth "Pattern" "matches"] : List He.Fa)
abbrev R : PySem.W.OpenRow := PySem.W.OpenLaw.row PySem.Challenge.rw_pastewright_k25_maps_of_words
abbrev hk : PySem.W.Hook := He.hookD 6 fa fn
def ob (s : PySem.W.SharedT) : He.AlD := He.obsDG 6 fa fn (HandSHeadRun.getT s)
theorem ob_eq (s : PySem.W.SharedT) : ob s = hk.obs s.abs := He.obsDG_eq (HandSHeadRun.getT_eq s)
def loose : List PySem.Str := (["_wall", "PasteError", "InvalidPattern", "LETTERS", "MAX_ALPHABET", "is_word", "is_alphabet", "MAX_STATES", "DEAD", "Pattern", "join_maps", "_law_bag", "_law_pull", "_law_of", "_law_same", "_law_reads", "_law_word", "_law_pattern_plan", "_law_pattern", "_law_map", "_law_matches"] : List PySem.Str)
theorem run (w : World) : HandSHeadRun.RunEq R (PySem.W.view R.prog [25]) hk ob 12000 loose w := by
  intro os
  kernel_rfl
end DL.k25

/-! DL: values as trees over the hand layer. -/
namespace DL
open PySem PySem.Spec PyProof.Rows L2

/-! ### data -/
inductive D where
  | non | bl (b : Bool) | int (i : Int) | str (s : List Nat)
  | tup (xs : List D) | lst (xs : List D) | rol (xs : List D)
  | obj (c : Str) (fs : List (Str × D))
  | dk (kvs : List (Key × D)) | dt (kvs : List (List Key × D))
  | loc (n : Nat) | ty (n : String)
  | exc (c : Str) (fs : List (Str × D)) | tab (x q : Str)
instance : Inhabited D := ⟨.non⟩
/-- what may be changed -/
inductive Con where
  | lst (ds : List D) | dk (kvs : List (Key × D)) | dt (kvs : List (List Key × D)) | obj (c : Str) (fs : List (Str × D))
  | tbl (x q : Str)
/-- a slot's value: frozen, or owned by the slot -/
inductive SV where
  | fz (d : D) | ow (c : Con)
abbrev DEnv := List (Option SV)
abbrev Sto := List (Option Con)
/-- an expression's value: frozen, new and owned by nobody, or what slot i owns -/
inductive Rv where
  | fz (d : D) | ow (c : Con) | vw (i : Nat)
structure Exn where
  cls : Str
  fs : List (Str × D)
inductive Res (α : Type) where
  | ok (a : α) | ex (x : Exn)
abbrev M (α : Type) := Sto → Option (Res α × Sto)
def ret {α : Type} (a : α) : M α := fun st => some (.ok a, st)
def fail {α : Type} : M α := fun _ => none
def bnd {α β : Type} (m : M α) (k : α → M β) : M β := fun st => match m st with
  | none => none
  | some (.ok a, st') => k a st'
  | some (.ex x, st') => some (.ex x, st')

/-- the written part and the module's names -/
structure GG where
  K : PySem.W.Frag
  mg : Str → Option Value

/-- an exception that was caught, or made as a value: its class, its dict's address -/
def ExZ (cls : Value) (dx a : Addr) : HO := .ext fun h => ∃ (oe : Obj) (vs : Array Value), h.get? a = some oe ∧ Zc cls (some dx) oe ∧ oe.data = .fields vs
theorem exZ_tbl {cls : Value} {dx a : Addr} {ps : Array Value} : ExZ cls dx a ≠ .tbl ps := fun z => by
  have z2 : HO.ext _ = HO.tbl ps := z
  cases z2
theorem exZ_tup {cls : Value} {dx a : Addr} {xs : List V} : ExZ cls dx a ≠ .tup xs := fun z => by
  have z2 : HO.ext _ = HO.tup xs := z
  cases z2
theorem exZ_frz {cls : Value} {dx a : Addr} {o : Obj} {u : HO} : ExZ cls dx a ≠ .frz o u := fun z => by
  have z2 : HO.ext _ = HO.frz o u := z
  cases z2
theorem exZ_own {cls : Value} {dx a x : Addr} : ExZ cls dx a ≠ .own x := fun z => by
  have z2 : HO.ext _ = HO.own x := z
  cases z2
/-- the codes that a table tells bear the name q -/
def TabQ (F : Hp) (ps : Array Value) (q : Str) : Prop := TriplesOk ps.toList ∧ ∀ (pos : Pos) (cv : Value), codeAmong pos ps.toList = some cv → ∃ c, cv = .ref c ∧ F c = some (LamX.CodeO c q)
theorem TabQ.mono {F F' : Hp} {ps : Array Value} {q : Str} (h : TabQ F ps q) (e : Same F F') : TabQ F' ps q := ⟨h.1, fun pos cv hc => by
  obtain ⟨c, e1, e2⟩ := h.2 pos cv hc
  exact ⟨c, e1, e _ _ e2⟩⟩
/-- a is the table of the def x -/
def TabA (g : GG) (x : Str) (a : Addr) : Prop := ∃ c, PySem.W.tabIn g.K x = some (c, a)
mutual
inductive Rep (g : GG) (F : Hp) (ρ : List Addr) : D → V → Prop
  | non : Rep g F ρ .non .non
  | bl {b : Bool} : Rep g F ρ (.bl b) (.bl b)
  | int {i : Int} : Rep g F ρ (.int i) (.int i)
  | str {s : List Nat} : Rep g F ρ (.str s) (.str ⟨s.toArray⟩)
  | tup {a : Addr} {vs : List V} {ds : List D} : SqT g.K F a vs → Reps g F ρ ds vs → Rep g F ρ (.tup ds) (.ref a)
  | lst {a : Addr} {vs : List V} {ds : List D} : F a = some (.lst vs) → Reps g F ρ ds vs → Rep g F ρ (.lst ds) (.ref a)
  | rol {a : Addr} {vs : List V} {ds : List D} : SqL g.K F a vs → Reps g F ρ ds vs → Rep g F ρ (.rol ds) (.ref a)
  | loc {n : Nat} {a : Addr} : ρ[n]? = some a → Rep g F ρ (.loc n) (.ref a)
  | ty {n : String} : Rep g F ρ (.ty n) (.ty n)
  | obj {c : Str} {C a dx : Addr} {fs : List (Str × D)} {fvs : List (Str × V)} : g.mg c = some (.ref C) → F a = some (.ins C dx fvs) →
      fs.map Prod.fst = fvs.map Prod.fst → Reps g F ρ (fs.map Prod.snd) (fvs.map Prod.snd) → Rep g F ρ (.obj c fs) (.ref a)
  | dk {a : Addr} {kvs : List (Key × D)} {kvv : List (Key × V)} : F a = some (.dK kvv) → kvs.map Prod.fst = kvv.map Prod.fst → Reps g F ρ (kvs.map Prod.snd) (kvv.map Prod.snd) → Rep g F ρ (.dk kvs) (.ref a)
  | dt {a : Addr} {kvs : List (List Key × D)} {kvv : List (List Key × V)} : F a = some (.dT kvv) → kvs.map Prod.fst = kvv.map Prod.fst → Reps g F ρ (kvs.map Prod.snd) (kvv.map Prod.snd) → Rep g F ρ (.dt kvs) (.ref a)
  | exc {c : Str} {C a dx : Addr} {fs : List (Str × D)} {fvs : List (Str × V)} : g.mg c = some (.ref C) → F a = some (ExZ (.ref C) dx a) → F dx = some (.xd fvs) → fs.map Prod.fst = fvs.map Prod.fst → Reps g F ρ (fs.map Prod.snd) (fvs.map Prod.snd) → Rep g F ρ (.exc c fs) (.ref a)
  | tab {x q : Str} {a : Addr} {ps : Array Value} : TabA g x a → F a = some (.tbl ps) → TabQ F ps q → Rep g F ρ (.tab x q) (.ref a)
inductive Reps (g : GG) (F : Hp) (ρ : List Addr) : List D → List V → Prop
  | nil : Reps g F ρ [] []
  | cons {d : D} {v : V} {ds : List D} {vs : List V} : Rep g F ρ d v → Reps g F ρ ds vs → Reps g F ρ (d :: ds) (v :: vs)
end

section
variable {g : GG} {F F' : Hp} {ρ ρ' : List Addr}
theorem Same.sqT {K : PySem.W.Frag} {H H' : Hp} {a : Addr} {xs : List V} (e : Same H H') (h : SqT K H a xs) : SqT K H' a xs := by
  rcases h with (h | ⟨o, h⟩) | h
  · exact .inl (.inl (e _ _ h))
  · exact .inl (.inr ⟨o, e _ _ h⟩)
  · exact .inr h
mutual
theorem Rep.mono (e : Same F F') (p : ∃ l, ρ' = ρ ++ l) : ∀ {d : D} {v : V}, Rep g F ρ d v → Rep g F' ρ' d v
  | _, _, .non => .non
  | _, _, .bl => .bl
  | _, _, .int => .int
  | _, _, .str => .str
  | _, _, .ty => .ty
  | _, _, .tup h r => .tup (Same.sqT e h) (Reps.mono e p r)
  | _, _, .lst h r => .lst (e _ _ h) (Reps.mono e p r)
  | _, _, .rol h r => .rol (Same.seq e h) (Reps.mono e p r)
  | _, _, .loc h => .loc (by
      obtain ⟨l, rfl⟩ := p
      rw [List.getElem?_append_left]
      · exact h
      · exact (List.getElem?_eq_some_iff.mp h).1)
  | _, _, .obj h1 h2 h4 r => .obj h1 (e _ _ h2) h4 (Reps.mono e p r)
  | _, _, .dk h2 h4 r => .dk (e _ _ h2) h4 (Reps.mono e p r)
  | _, _, .dt h2 h4 r => .dt (e _ _ h2) h4 (Reps.mono e p r)
  | _, _, .exc h1 h2 h3 h4 r => .exc h1 (e _ _ h2) (e _ _ h3) h4 (Reps.mono e p r)
  | _, _, .tab h1 h2 h3 => .tab h1 (e _ _ h2) (h3.mono e)
theorem Reps.mono (e : Same F F') (p : ∃ l, ρ' = ρ ++ l) : ∀ {ds : List D} {vs : List V}, Reps g F ρ ds vs → Reps g F' ρ' ds vs
  | _, _, .nil => .nil
  | _, _, .cons r t => .cons (Rep.mono e p r) (Reps.mono e p t)
end
theorem Reps.length : ∀ {ds : List D} {vs : List V}, Reps g F ρ ds vs → ds.length = vs.length
  | _, _, .nil => rfl
  | _, _, .cons _ t => congrArg (· + 1) (Reps.length t)
theorem Reps.get : ∀ {ds : List D} {vs : List V} {i : Nat} {d : D}, Reps g F ρ ds vs → ds[i]? = some d → ∃ v, vs[i]? = some v ∧ Rep g F ρ d v
  | _, _, _, _, .nil, e => by simp at e
  | _, _, 0, _, .cons r _, e => by simp at e; subst e; exact ⟨_, rfl, r⟩
  | _, _, i + 1, d, .cons _ t, e => by
    obtain ⟨v, h1, h2⟩ := Reps.get (i := i) t (by simpa using e)
    exact ⟨v, by simpa using h1, h2⟩
theorem Reps.getV {ds : List D} {vs : List V} {i : Nat} {v : V} (r : Reps g F ρ ds vs) (e : vs[i]? = some v) : ∃ d, ds[i]? = some d ∧ Rep g F ρ d v := by
  have hi : i < ds.length := by rw [r.length]; exact (List.getElem?_eq_some_iff.mp e).1
  obtain ⟨v', h1, h2⟩ := r.get (List.getElem?_eq_getElem hi)
  rw [e] at h1; cases h1
  exact ⟨_, List.getElem?_eq_getElem hi, h2⟩
theorem Reps.append : ∀ {ds es : List D} {vs ws : List V}, Reps g F ρ ds vs → Reps g F ρ es ws → Reps g F ρ (ds ++ es) (vs ++ ws)
  | _, _, _, _, .nil, s => s
  | _, _, _, _, .cons r t, s => .cons r (Reps.append t s)
theorem Reps.take : ∀ {ds : List D} {vs : List V} (n : Nat), Reps g F ρ ds vs → Reps g F ρ (ds.take n) (vs.take n)
  | _, _, 0, _ => .nil
  | _, _, _ + 1, .nil => .nil
  | _, _, n + 1, .cons r t => .cons r (Reps.take n t)
theorem Reps.drop : ∀ {ds : List D} {vs : List V} (n : Nat), Reps g F ρ ds vs → Reps g F ρ (ds.drop n) (vs.drop n)
  | _, _, 0, r => r
  | _, _, _ + 1, .nil => .nil
  | _, _, n + 1, .cons _ t => Reps.drop n t
theorem Reps.set {d : D} {v : V} (r : Rep g F ρ d v) : ∀ {ds : List D} {vs : List V} (i : Nat), Reps g F ρ ds vs → Reps g F ρ (ds.set i d) (vs.set i v)
  | _, _, _, .nil => .nil
  | _, _, 0, .cons _ t => .cons r t
  | _, _, i + 1, .cons q t => .cons q (Reps.set r i t)
theorem Reps.reverse : ∀ {ds : List D} {vs : List V}, Reps g F ρ ds vs → Reps g F ρ ds.reverse vs.reverse
  | _, _, .nil => .nil
  | _, _, .cons r t => by rw [List.reverse_cons, List.reverse_cons]; exact (Reps.reverse t).append (.cons r .nil)
theorem Reps.eraseIdx : ∀ {ds : List D} {vs : List V} (i : Nat), Reps g F ρ ds vs → Reps g F ρ (ds.eraseIdx i) (vs.eraseIdx i)
  | _, _, _, .nil => .nil
  | _, _, 0, .cons _ t => t
  | _, _, i + 1, .cons r t => .cons r (Reps.eraseIdx i t)
theorem Reps.inserted {d : D} {v : V} (r : Rep g F ρ d v) (n : Nat) {ds : List D} {vs : List V} (h : Reps g F ρ ds vs) : Reps g F ρ (ds.take n ++ d :: ds.drop n) (vs.take n ++ v :: vs.drop n) :=
  (h.take n).append (.cons r (h.drop n))
theorem Reps.rep {ds : List D} {vs : List V} (h : Reps g F ρ ds vs) : ∀ k : Nat, Reps g F ρ (List.replicate k ds).flatten (List.replicate k vs).flatten
  | 0 => .nil
  | k + 1 => by rw [List.replicate_succ, List.replicate_succ, List.flatten_cons, List.flatten_cons]; exact h.append (h.rep k)
theorem Reps.ints : ∀ {ns : List Int} {vs : List V}, Reps g F ρ (ns.map D.int) vs → vs = ns.map V.int
  | [], _, .nil => rfl
  | n :: ns, _, .cons .int t => by rw [Reps.ints t]; rfl
theorem Reps.of_ints : ∀ ns : List Int, Reps g F ρ (ns.map D.int) (ns.map V.int)
  | [] => .nil
  | n :: ns => .cons .int (Reps.of_ints ns)
theorem Reps.strs : ∀ {ns : List (List Nat)} {vs : List V}, Reps g F ρ (ns.map D.str) vs → vs = (ns.map fun s => (⟨s.toArray⟩ : Str)).map V.str
  | [], _, .nil => rfl
  | n :: ns, _, .cons .str t => by rw [Reps.strs t]; rfl
theorem Reps.of_strs : ∀ ns : List (List Nat), Reps g F ρ (ns.map D.str) ((ns.map fun s => (⟨s.toArray⟩ : Str)).map V.str)
  | [] => .nil
  | n :: ns => .cons .str (Reps.of_strs ns)
theorem Reps.bls : ∀ {ns : List Bool} {vs : List V}, Reps g F ρ (ns.map D.bl) vs → vs = ns.map V.bl
  | [], _, .nil => rfl
  | n :: ns, _, .cons .bl t => by rw [Reps.bls t]; rfl
theorem Rep.int_v {i : Int} {v : V} (r : Rep g F ρ (.int i) v) : v = .int i := by cases r; rfl
theorem Rep.bl_v {b : Bool} {v : V} (r : Rep g F ρ (.bl b) v) : v = .bl b := by cases r; rfl
theorem Rep.non_v {v : V} (r : Rep g F ρ .non v) : v = .non := by cases r; rfl
theorem Rep.str_v {s : List Nat} {v : V} (r : Rep g F ρ (.str s) v) : v = .str ⟨s.toArray⟩ := by cases r; rfl
theorem Rep.tup_v {ds : List D} {v : V} (r : Rep g F ρ (.tup ds) v) : ∃ a vs, v = .ref a ∧ SqT g.K F a vs ∧ Reps g F ρ ds vs := by cases r; exact ⟨_, _, rfl, by assumption, by assumption⟩
theorem Rep.lst_v {ds : List D} {v : V} (r : Rep g F ρ (.lst ds) v) : ∃ a vs, v = .ref a ∧ F a = some (.lst vs) ∧ Reps g F ρ ds vs := by cases r; exact ⟨_, _, rfl, by assumption, by assumption⟩
end

/-! ### from one state to a later one -/
structure After (ρ : List Addr) (F H : Hp) (ρ' : List Addr) (F' H' : Hp) : Prop where
  ff : Same F F'
  fn : ∀ a o, F' a = some o → F a = none → H a = none ∨ a ∈ ρ
  pre : ∃ l, ρ' = ρ ++ l ∧ ∀ a ∈ l, H a = none ∧ a ∉ ρ
  hk : ∀ a o, H a = some o → a ∉ ρ → H' a = some o
section
variable {ρ ρ1 ρ2 : List Addr} {F H F1 H1 F2 H2 : Hp}
theorem After.refl : After ρ F H ρ F H := ⟨Same.refl F, fun a o h1 h2 => by (rw [h1] at h2; cases h2), ⟨[], by simp, fun _ h => absurd h (by simp)⟩, fun _ _ h _ => h⟩
theorem After.mem (a : After ρ F H ρ1 F1 H1) {x : Addr} (h : x ∈ ρ) : x ∈ ρ1 := by
  obtain ⟨l, rfl, _⟩ := a.pre
  exact List.mem_append_left _ h
theorem After.nmem (a : After ρ F H ρ1 F1 H1) {x : Addr} {o : HO} (h : x ∉ ρ) (e : H x = some o) : x ∉ ρ1 := by
  obtain ⟨l, rfl, q⟩ := a.pre
  intro z
  rcases List.mem_append.mp z with z | z
  · exact h z
  · rw [(q x z).1] at e; cases e
theorem After.back (a : After ρ F H ρ1 F1 H1) {x : Addr} (h : x ∉ ρ) (e : H1 x = none) : H x = none := by
  cases q : H x with
  | none => rfl
  | some o => rw [a.hk x o q h] at e; cases e
theorem After.trans (a : After ρ F H ρ1 F1 H1) (b : After ρ1 F1 H1 ρ2 F2 H2) : After ρ F H ρ2 F2 H2 := by
  obtain ⟨l1, e1, p1⟩ := a.pre
  obtain ⟨l2, e2, p2⟩ := b.pre
  refine ⟨a.ff.trans b.ff, fun x o h2 h0 => ?_, ⟨l1 ++ l2, by rw [e2, e1, List.append_assoc], fun x hx => ?_⟩, fun x o h n => b.hk x o (a.hk x o h n) (a.nmem n h)⟩
  · by_cases hx : x ∈ ρ
    · exact .inr hx
    · refine .inl ?_
      cases q : F1 x with
      | some o1 =>
        rcases a.fn x o1 q h0 with z | z
        · exact z
        · exact absurd z hx
      | none =>
        rcases b.fn x o h2 q with z | z
        · exact a.back hx z
        · rw [e1] at z
          rcases List.mem_append.mp z with z | z
          · exact absurd z hx
          · exact (p1 x z).1
  · rcases List.mem_append.mp hx with z | z
    · exact p1 x z
    · obtain ⟨q1, q2⟩ := p2 x z
      have n : x ∉ ρ := fun w => q2 (a.mem w)
      exact ⟨a.back n q1, n⟩
theorem After.ex (a : After ρ F H ρ1 F1 H1) : ∃ l, ρ1 = ρ ++ l := let ⟨l, e, _⟩ := a.pre; ⟨l, e⟩
/-- what is not frozen and stands stays unfrozen -/
theorem After.unf (a : After ρ F H ρ1 F1 H1) {x : Addr} {o : HO} (h : H x = some o) (n : x ∉ ρ) (f : F x = none) : F1 x = none := by
  cases q : F1 x with
  | none => rfl
  | some u =>
    rcases a.fn x u q f with z | z
    · rw [h] at z; cases z
    · exact absurd z n
end

/-! ### contents, slots, cells -/
def ConOk (g : GG) (F : Hp) (ρ : List Addr) (H : Hp) (a : Addr) : Con → Prop
  | .lst ds => ∃ vs, H a = some (.lst vs) ∧ Reps g F ρ ds vs
  | .dk kvs => ∃ kvv, H a = some (.dK kvv) ∧ kvs.map Prod.fst = kvv.map Prod.fst ∧ Reps g F ρ (kvs.map Prod.snd) (kvv.map Prod.snd)
  | .dt kvs => ∃ kvv, H a = some (.dT kvv) ∧ kvs.map Prod.fst = kvv.map Prod.fst ∧ Reps g F ρ (kvs.map Prod.snd) (kvv.map Prod.snd)
  | .obj c fs => ∃ C dx fvs, g.mg c = some (.ref C) ∧ H a = some (.ins C dx fvs) ∧ fs.map Prod.fst = fvs.map Prod.fst ∧ Reps g F ρ (fs.map Prod.snd) (fvs.map Prod.snd)
  | .tbl x q => TabA g x a ∧ ∃ ps, H a = some (.tbl ps) ∧ TabQ F ps q
section
variable {g : GG} {F F' H H' : Hp} {ρ ρ' : List Addr} {a : Addr} {c : Con}
theorem ConOk.there (h : ConOk g F ρ H a c) : ∃ o, H a = some o := by
  cases c with
  | lst ds => obtain ⟨vs, e, _⟩ := h; exact ⟨_, e⟩
  | dk kvs => obtain ⟨vs, e, _⟩ := h; exact ⟨_, e⟩
  | dt kvs => obtain ⟨vs, e, _⟩ := h; exact ⟨_, e⟩
  | obj c fs => obtain ⟨C, dx, fvs, _, e, _⟩ := h; exact ⟨_, e⟩
  | tbl x q => obtain ⟨_, ps, e, _⟩ := h; exact ⟨_, e⟩
/-- the content where the object is kept -/
theorem ConOk.kept (h : ConOk g F ρ H a c) (e : Same F F') (p : ∃ l, ρ' = ρ ++ l) (k : ∀ o, H a = some o → H' a = some o) : ConOk g F' ρ' H' a c := by
  cases c with
  | lst ds => obtain ⟨vs, h1, r⟩ := h; exact ⟨vs, k _ h1, r.mono e p⟩
  | dk kvs => obtain ⟨vs, h1, h2, r⟩ := h; exact ⟨vs, k _ h1, h2, r.mono e p⟩
  | dt kvs => obtain ⟨vs, h1, h2, r⟩ := h; exact ⟨vs, k _ h1, h2, r.mono e p⟩
  | obj c fs =>
    obtain ⟨C, dx, fvs, h0, h1, h4, r⟩ := h
    exact ⟨C, dx, fvs, h0, k _ h1, h4, r.mono e p⟩
  | tbl x q =>
    obtain ⟨h0, ps, h1, h2⟩ := h
    exact ⟨h0, ps, k _ h1, h2.mono e⟩
theorem ConOk.mono (h : ConOk g F ρ H a c) (n : a ∉ ρ) (A : After ρ F H ρ' F' H') : ConOk g F' ρ' H' a c :=
  h.kept A.ff A.ex fun o e => A.hk a o e n
end

def SlotOk (g : GG) (H0 F : Hp) (ρ : List Addr) (H : Hp) : SV → V → Prop
  | .fz d, v => Rep g F ρ d v
  | .ow c, v => ∃ a, v = .ref a ∧ F a = none ∧ a ∉ ρ ∧ H0 a = none ∧ ConOk g F ρ H a c
structure StoOk (g : GG) (F : Hp) (ρ : List Addr) (st : Sto) (H : Hp) : Prop where
  len : ρ.length = st.length
  nd : ρ.Nodup
  there : ∀ a ∈ ρ, ∃ o, H a = some o
  live : ∀ (n : Nat) (c : Con), st[n]? = some (some c) → ∃ a, ρ[n]? = some a ∧ F a = none ∧ ConOk g F ρ H a c
/-- the state of a body: H0 the heap at its entry -/
structure St0 (g : GG) (H0 F : Hp) (ρ : List Addr) (δ : DEnv) (st : Sto) (σ : L2.St) (H : Hp) : Prop where
  fs : Same F H
  len : σ.length = δ.length
  slot : ∀ (i : Nat) (sv : SV), δ[i]? = some (some sv) → ∃ v, σ[i]? = some (some v) ∧ SlotOk g H0 F ρ H sv v
  dist : ∀ (i j : Nat) (a : Addr) (ci cj : Con), δ[i]? = some (some (.ow ci)) → δ[j]? = some (some (.ow cj)) → σ[i]? = some (some (.ref a)) → σ[j]? = some (some (.ref a)) → i = j
  sto : StoOk g F ρ st H
/-- a value of an expression that began at H1 -/
def RepR (g : GG) (F : Hp) (ρ : List Addr) (δ : DEnv) (σ : L2.St) (H1 H : Hp) : Rv → V → Prop
  | .fz d, v => Rep g F ρ d v
  | .ow c, v => ∃ a, v = .ref a ∧ F a = none ∧ a ∉ ρ ∧ H1 a = none ∧ ConOk g F ρ H a c
  | .vw i, v => σ[i]? = some (some v) ∧ ∃ c, δ[i]? = some (some (.ow c))
/-- an exception's data -/
def RepX (g : GG) (F : Hp) (ρ : List Addr) (H : Hp) (x : Exn) (c : Value) (d : Option Addr) : Prop :=
  ∃ C dx fvs, g.mg x.cls = some (.ref C) ∧ c = .ref C ∧ d = some dx ∧ F dx = some (.xd fvs) ∧ x.fs.map Prod.fst = fvs.map Prod.fst ∧ Reps g F ρ (x.fs.map Prod.snd) (fvs.map Prod.snd)

section
variable {g : GG} {H0 F F' H H' H1 : Hp} {ρ ρ' : List Addr} {δ : DEnv} {σ : L2.St} {st st' : Sto} {r : Rv} {v : V}
theorem RepR.mono (h : RepR g F ρ δ σ H1 H r v) (A : After ρ F H ρ' F' H') : RepR g F' ρ' δ σ H1 H' r v := by
  cases r with
  | fz d => exact Rep.mono A.ff A.ex h
  | ow c =>
    obtain ⟨a, e, f, n, z, k⟩ := h
    obtain ⟨o, ho⟩ := k.there
    exact ⟨a, e, A.unf ho n f, A.nmem n ho, z, k.mono n A⟩
  | vw i => exact h
/-- fresh at a later state, fresh at an earlier one -/
theorem RepR.earlier {ρ0 : List Addr} {F0 HH : Hp} (h : RepR g F' ρ' δ σ H1 H' r v) (A : After ρ0 F0 HH ρ F H1) (p : ∃ l, ρ' = ρ ++ l) : RepR g F' ρ' δ σ HH H' r v := by
  cases r with
  | fz d => exact h
  | ow c =>
    obtain ⟨a, e, f, n, z, k⟩ := h
    refine ⟨a, e, f, n, A.back ?_ z, k⟩
    intro q
    obtain ⟨l, hl⟩ := p
    exact n (by rw [hl]; exact List.mem_append_left _ (A.mem q))
  | vw i => exact h
end

/-- the heap grows, nothing is changed -/
structure Ext (F H F' H' : Hp) : Prop where
  ff : Same F F'
  hh : Same H H'
  fn : ∀ a o, F' a = some o → F a = none → H a = none
  fs : Same F' H'
section
variable {g : GG} {H0 F F' H H' H1 : Hp} {ρ ρ' : List Addr} {δ : DEnv} {σ : L2.St} {st st' : Sto} {r : Rv} {v : V}
theorem Ext.after (e : Ext F H F' H') : After ρ F H ρ F' H' := ⟨e.ff, fun a o h1 h2 => .inl (e.fn a o h1 h2), ⟨[], by simp, fun _ h => absurd h (by simp)⟩, fun a o h _ => e.hh a o h⟩
theorem Ext.refl (h : Same F H) : Ext F H F H := ⟨Same.refl _, Same.refl _, fun a o h1 h2 => by (rw [h1] at h2; cases h2), h⟩
theorem ConOk.ext {a : Addr} {c : Con} (h : ConOk g F ρ H a c) (e : Ext F H F' H') : ConOk g F' ρ H' a c :=
  h.kept e.ff ⟨[], by simp⟩ fun o q => e.hh _ _ q
theorem StoOk.ext (h : StoOk g F ρ st H) (e : Ext F H F' H') : StoOk g F' ρ st H' := by
  refine ⟨h.len, h.nd, fun a ha => (h.there a ha).imp fun o q => e.hh _ _ q, fun n c q => ?_⟩
  obtain ⟨a, h1, h2, h3⟩ := h.live n c q
  obtain ⟨o, ho⟩ := h3.there
  refine ⟨a, h1, ?_, h3.ext e⟩
  cases z : F' a with
  | none => rfl
  | some u => rw [e.fn a u z h2] at ho; cases ho
theorem St0.ext (h : St0 g H0 F ρ δ st σ H) (e : Ext F H F' H') : St0 g H0 F' ρ δ st σ H' := by
  refine ⟨e.fs, h.len, fun i sv q => ?_, h.dist, h.sto.ext e⟩
  obtain ⟨v, h1, h2⟩ := h.slot i sv q
  refine ⟨v, h1, ?_⟩
  cases sv with
  | fz d => exact Rep.mono e.ff ⟨[], by simp⟩ h2
  | ow c =>
    obtain ⟨a, e1, e2, e3, e4, e5⟩ := h2
    obtain ⟨o, ho⟩ := e5.there
    refine ⟨a, e1, ?_, e3, e4, e5.ext e⟩
    cases z : F' a with
    | none => rfl
    | some u => rw [e.fn a u z e2] at ho; cases ho
theorem ext_new {p : Addr} {o : HO} (h : Same F H) (np : H p = none) : Ext F H F (upd H p o) := by
  have hh : Same H (upd H p o) := fun b u e => by rw [upd_ne (ne_of_none e np)]; exact e
  exact ⟨Same.refl _, hh, fun a o h1 h2 => by (rw [h1] at h2; cases h2), h.trans hh⟩
theorem ext_frz {p : Addr} {o : HO} (h : Same F H) (np : H p = none) : Ext F H (upd F p o) (upd H p o) := by
  have hh : Same H (upd H p o) := fun b u e => by rw [upd_ne (ne_of_none e np)]; exact e
  have nf : F p = none := h.free np
  have hf : Same F (upd F p o) := fun b u e => by rw [upd_ne (ne_of_none e nf)]; exact e
  refine ⟨hf, hh, fun a u h1 h2 => ?_, fun b u e => ?_⟩
  · by_cases z : a = p
    · rw [z]; exact np
    · rw [upd_ne z] at h1; rw [h1] at h2; cases h2
  · by_cases z : b = p
    · subst z; rw [upd_same] at e ⊢; exact e
    · rw [upd_ne z] at e ⊢; exact h b u e
end

/-! ### readings of expressions -/
def PostE (g : GG) (W : WX) (H0 F : Hp) (ρ : List Addr) (δ : DEnv) (σ : L2.St) (H : Hp) (o : Option (Res Rv × Sto)) (Q : VK) : Prop := match o with
  | none => False
  | some (.ok r, st') => ∀ v ρ' F' H', After ρ F H ρ' F' H' → St0 g H0 F' ρ' δ st' σ H' → RepR g F' ρ' δ σ H H' r v → Q v H'
  | some (.ex x, st') => ∀ c d ρ' F' H', After ρ F H ρ' F' H' → St0 g H0 F' ρ' δ st' σ H' → RepX g F' ρ' H' x c d → W c d σ H'
def rdE (g : GG) (W : WX) (ge : DEnv → M Rv) : TE := fun σ H Q => ∃ H0 F ρ δ st, St0 g H0 F ρ δ st σ H ∧ PostE g W H0 F ρ δ σ H (ge δ st) Q
section
variable {g : GG} {W : WX} {H0 F F' H H' : Hp} {ρ ρ' : List Addr} {δ : DEnv} {σ : L2.St} {st st' : Sto} {r : Rv} {v : V} {Q : VK}
theorem PostE.later {o : Option (Res Rv × Sto)} (h : PostE g W H0 F ρ δ σ H o Q) (A : After ρ F H ρ' F' H') : PostE g W H0 F' ρ' δ σ H' o Q := by
  match o, h with
  | some (.ok r, st'), h => exact fun v ρ2 F2 H2 A2 S2 R2 => h v ρ2 F2 H2 (A.trans A2) S2 (R2.earlier A A2.ex)
  | some (.ex x, st'), h => exact fun c d ρ2 F2 H2 A2 S2 R2 => h c d ρ2 F2 H2 (A.trans A2) S2 R2
theorem PostE.done (h : PostE g W H0 F ρ δ σ H (some (.ok r, st)) Q) (S : St0 g H0 F ρ δ st σ H) (e : Ext F H F' H') (R : RepR g F' ρ δ σ H H' r v) : Q v H' :=
  h v ρ F' H' e.after (S.ext e) R
theorem PostE.done0 (h : PostE g W H0 F ρ δ σ H (some (.ok r, st)) Q) (S : St0 g H0 F ρ δ st σ H) (R : RepR g F ρ δ σ H H r v) : Q v H :=
  h.done S (Ext.refl S.fs) R
/-- the same from a state within -/
theorem PostE_bnd {ma : M Rv} {k : Rv → M Rv} {R : V → Hp → Prop} (h : PostE g W H0 F ρ δ σ H (bnd ma k st) Q)
    (hk : ∀ F' ρ' st' H' v r, After ρ F H ρ' F' H' → St0 g H0 F' ρ' δ st' σ H' → RepR g F' ρ' δ σ H H' r v → PostE g W H0 F' ρ' δ σ H' (k r st') Q → R v H') : PostE g W H0 F ρ δ σ H (ma st) R := by
  unfold bnd at h
  match e : ma st, h with
  | none, h => exact h
  | some (.ok r, st'), h => exact fun v ρ' F' H' A S' R' => hk F' ρ' st' H' v r A S' R' (PostE.later h A)
  | some (.ex x, st'), h => exact h
theorem PostE_bnd0 {ma : M Rv} {k : Rv → M Rv} {R : V → Hp → Prop} (h : PostE g W H0 F ρ δ σ H (bnd ma k st) Q)
    (hk : ∀ F' ρ' st' H' v r, After ρ F H ρ' F' H' → St0 g H0 F' ρ' δ st' σ H' → RepR g F' ρ' δ σ H H' r v → PostE g W H0 F ρ δ σ H (k r st') Q → R v H') : PostE g W H0 F ρ δ σ H (ma st) R := by
  unfold bnd at h
  match e : ma st, h with
  | none, h => exact h
  | some (.ok r, st'), h => exact fun v ρ' F' H' A S' R' => hk F' ρ' st' H' v r A S' R' h
  | some (.ex x, st'), h => exact h
/-- first one expression, then what is made of its value -/
theorem rdE_bnd {ga : DEnv → M Rv} {k : DEnv → Rv → M Rv} {R : V → Hp → Prop} (h : rdE g W (fun δ => bnd (ga δ) (k δ)) σ H Q)
    (hk : ∀ H0 F ρ δ st Hs H v r, St0 g H0 F ρ δ st σ H → RepR g F ρ δ σ Hs H r v → PostE g W H0 F ρ δ σ H (k δ r st) Q → R v H) : rdE g W ga σ H R := by
  obtain ⟨H0, F, ρ, δ, st, S, h⟩ := h
  exact ⟨H0, F, ρ, δ, st, S, PostE_bnd h fun F' ρ' st' H' v r _ S' R' P' => hk H0 F' ρ' δ st' H H' v r S' R' P'⟩
end
end DL

/-! DL2: the judgements; names, constants, displays, arguments. -/
namespace DL
open PySem PySem.Spec PyProof.Rows L2 TL
set_option autoImplicit false

/-! ### contexts -/
structure Ctx where
  P : Program
  w : World
  K : PySem.W.Frag
  mg : Str → Option Value
  base : Heap
  N : List Str
  sc : Scope
  k : Nat
  top : Str → Bool
  hot : Bool
  me : Option (Str × Str)
abbrev Ctx.gg (C : Ctx) : GG := ⟨C.K, C.mg⟩
abbrev xg (X : Cx) : GG := ⟨X.K, X.mg⟩
structure CtxOk (C : Ctx) (X : Cx) : Prop where
  prog : X.prog = C.P
  w : X.w = C.w
  K : X.K = C.K
  mg : X.mg = C.mg
  base : X.base = C.base
  N : X.N = C.N
  sc : X.env.scope = C.sc
  calm : C.hot = false → X.calm = true
  room : C.hot = false → Room C.k X.A
  dpH : X.A.depth + 3 * C.k + 5 < recursionLimit
  unH : X.A.units + 16 * C.k + 200 < cLine
  pown : PassesOwn (model X.prog X.w) X.A X.env X.xe
  nd : C.N.Nodup
  top : ∀ x, C.top x = true → X.fn x = true
  me : ∀ x q, C.me = some (x, q) → ∃ c P, PySem.W.tabIn X.K x = some (c, P) ∧ X.env.code = .ref c ∧ LamX.TabB X.base X.mg c P ∧ X.env.qual ++ "<lambda>" = q
/-- a name that may be stored -/
def Stor (C : Ctx) (x : Str) : Prop := C.sc.names.lookup x = some .local ∨ (C.top x = true ∧ C.sc.names.lookup x = some .cell)
theorem CtxOk.loc {C : Ctx} {X : Cx} (ok : CtxOk C X) {x : Str} (h : Stor C x) : Loc X.env.scope x := by
  rw [ok.sc]
  rcases h with h | h
  · exact .inl h
  · exact .inr h.2
theorem CtxOk.fn {C : Ctx} {X : Cx} (ok : CtxOk C X) {x : Str} (h : Stor C x) : X.fn x = true ∨ X.env.scope.names.lookup x = some .local := by
  rcases h with h | h
  · exact .inr (by rw [ok.sc]; exact h)
  · exact .inl (ok.top x h.1)

/-! ### weaker readings -/
section
variable {X : Cx}
theorem peW {e : Expr} {t t' : TE} (p : PE X e t) (h : ∀ σ H Q, t' σ H Q → t σ H Q) : PE X e t' := ⟨fun pins s σ H Q I q => p.run pins s σ H Q I (h _ _ _ q)⟩
theorem ptW {e : Expr} {t t' : TT} (p : PT X e t) (h : ∀ σ H Q, t' σ H Q → t σ H Q) : PT X e t' := ⟨fun pins s σ H Q I q => p.run pins s σ H Q I (h _ _ _ q)⟩
theorem pwW {e : Expr} {t t' : TT} (p : PW X e t) (h : ∀ σ H Q, t' σ H Q → t σ H Q) : PW X e t' := ⟨fun wh pins s σ H Q I q => p.run wh pins s σ H Q I (h _ _ _ q)⟩
theorem paW {es : List Expr} {t t' : TA} (p : PA X es t) (h : ∀ σ H Q, t' σ H Q → t σ H Q) : PA X es t' := ⟨fun pos pins s σ H Q I q => p.run pos pins s σ H Q I (h _ _ _ q)⟩
theorem psW {st : Stmt} {t t' : TS} (p : PS X st t) (h : ∀ D σ H, t' D σ H → t D σ H) : PS X st t' := ⟨fun pins s σ H D I q => p.run pins s σ H D I (h _ _ _ q)⟩
theorem pssW {st : List Stmt} {t t' : TS} (p : PSs X st t) (h : ∀ D σ H, t' D σ H → t D σ H) : PSs X st t' := ⟨fun pins s σ H D I q => p.run pins s σ H D I (h _ _ _ q)⟩
end

/-- an expression's value by a function of the slots -/
def DE (C : Ctx) (e : Expr) (ge : DEnv → M Rv) : Prop := ∀ X W, CtxOk C X → Takes X W → PE X e (rdE (xg X) W ge)

/-! ### tests: the same with a bool -/
def PostT (g : GG) (W : WX) (H0 F : Hp) (ρ : List Addr) (δ : DEnv) (σ : L2.St) (H : Hp) (o : Option (Res Bool × Sto)) (Q : Bool → Hp → Prop) : Prop := match o with
  | none => False
  | some (.ok b, st') => ∀ ρ' F' H', After ρ F H ρ' F' H' → St0 g H0 F' ρ' δ st' σ H' → Q b H'
  | some (.ex x, st') => ∀ c d ρ' F' H', After ρ F H ρ' F' H' → St0 g H0 F' ρ' δ st' σ H' → RepX g F' ρ' H' x c d → W c d σ H'
def rdT (g : GG) (W : WX) (ge : DEnv → M Bool) : TT := fun σ H Q => ∃ H0 F ρ δ st, St0 g H0 F ρ δ st σ H ∧ PostT g W H0 F ρ δ σ H (ge δ st) Q
def DT (C : Ctx) (e : Expr) (ge : DEnv → M Bool) : Prop := ∀ X W, CtxOk C X → Takes X W → PT X e (rdT (xg X) W ge)
def DW (C : Ctx) (e : Expr) (ge : DEnv → M Bool) : Prop := ∀ X W, CtxOk C X → Takes X W → PW X e (rdT (xg X) W ge)
/-! ### argument lists -/
inductive RepRs (g : GG) (F : Hp) (ρ : List Addr) (δ : DEnv) (σ : L2.St) (H1 H : Hp) : List Rv → List V → Prop
  | nil : RepRs g F ρ δ σ H1 H [] []
  | cons {r : Rv} {v : V} {rs : List Rv} {vs : List V} : RepR g F ρ δ σ H1 H r v → RepRs g F ρ δ σ H1 H rs vs → RepRs g F ρ δ σ H1 H (r :: rs) (v :: vs)
def PostA (g : GG) (W : WX) (H0 F : Hp) (ρ : List Addr) (δ : DEnv) (σ : L2.St) (H : Hp) (o : Option (Res (List Rv) × Sto)) (Q : List V → Hp → Prop) : Prop := match o with
  | none => False
  | some (.ok rs, st') => ∀ vs ρ' F' H', After ρ F H ρ' F' H' → St0 g H0 F' ρ' δ st' σ H' → RepRs g F' ρ' δ σ H H' rs vs → Q vs H'
  | some (.ex x, st') => ∀ c d ρ' F' H', After ρ F H ρ' F' H' → St0 g H0 F' ρ' δ st' σ H' → RepX g F' ρ' H' x c d → W c d σ H'
def rdA (g : GG) (W : WX) (ge : DEnv → M (List Rv)) : TA := fun σ H Q => ∃ H0 F ρ δ st, St0 g H0 F ρ δ st σ H ∧ PostA g W H0 F ρ δ σ H (ge δ st) Q
def DA (C : Ctx) (es : List Expr) (ge : DEnv → M (List Rv)) : Prop := ∀ X W, CtxOk C X → Takes X W → PA X es (rdA (xg X) W ge)

section
variable {g : GG} {W : WX} {H0 F F' H H' H1 : Hp} {ρ ρ' : List Addr} {δ : DEnv} {σ : L2.St} {st st' : Sto} {r : Rv} {rs : List Rv} {v : V} {vs : List V}
theorem RepRs.mono : ∀ {rs : List Rv} {vs : List V}, RepRs g F ρ δ σ H1 H rs vs → After ρ F H ρ' F' H' → RepRs g F' ρ' δ σ H1 H' rs vs
  | _, _, .nil, _ => .nil
  | _, _, .cons h t, A => .cons (h.mono A) (t.mono A)
theorem RepRs.earlier {ρ0 : List Addr} {F0 HH : Hp} : ∀ {rs : List Rv} {vs : List V}, RepRs g F' ρ' δ σ H1 H' rs vs → After ρ0 F0 HH ρ F H1 → (∃ l, ρ' = ρ ++ l) → RepRs g F' ρ' δ σ HH H' rs vs
  | _, _, .nil, _, _ => .nil
  | _, _, .cons h t, A, p => .cons (h.earlier A p) (t.earlier A p)
theorem RepRs.length : ∀ {rs : List Rv} {vs : List V}, RepRs g F ρ δ σ H1 H rs vs → rs.length = vs.length
  | _, _, .nil => rfl
  | _, _, .cons _ t => congrArg (· + 1) t.length
theorem RepRs.get : ∀ {rs : List Rv} {vs : List V} {i : Nat} {r : Rv}, RepRs g F ρ δ σ H1 H rs vs → rs[i]? = some r → ∃ v, vs[i]? = some v ∧ RepR g F ρ δ σ H1 H r v
  | _, _, _, _, .nil, e => by simp at e
  | _, _, 0, _, .cons r _, e => by simp at e; subst e; exact ⟨_, rfl, r⟩
  | _, _, i + 1, d, .cons _ t, e => by
    obtain ⟨v, h1, h2⟩ := RepRs.get (i := i) t (by simpa using e)
    exact ⟨v, by simpa using h1, h2⟩
theorem PostA.later {Q : List V → Hp → Prop} {o : Option (Res (List Rv) × Sto)} (h : PostA g W H0 F ρ δ σ H o Q) (A : After ρ F H ρ' F' H') : PostA g W H0 F' ρ' δ σ H' o Q := by
  match o, h with
  | some (.ok r, st'), h => exact fun v ρ2 F2 H2 A2 S2 R2 => h v ρ2 F2 H2 (A.trans A2) S2 (R2.earlier A A2.ex)
  | some (.ex x, st'), h => exact fun c d ρ2 F2 H2 A2 S2 R2 => h c d ρ2 F2 H2 (A.trans A2) S2 R2
theorem PostT.later {Q : Bool → Hp → Prop} {o : Option (Res Bool × Sto)} (h : PostT g W H0 F ρ δ σ H o Q) (A : After ρ F H ρ' F' H') : PostT g W H0 F' ρ' δ σ H' o Q := by
  match o, h with
  | some (.ok r, st'), h => exact fun ρ2 F2 H2 A2 S2 => h ρ2 F2 H2 (A.trans A2) S2
  | some (.ex x, st'), h => exact fun c d ρ2 F2 H2 A2 S2 R2 => h c d ρ2 F2 H2 (A.trans A2) S2 R2
/-- an expression first, then arguments -/
theorem PostE_bndA {ma : M Rv} {k : Rv → M (List Rv)} {R : V → Hp → Prop} {Q : List V → Hp → Prop} (h : PostA g W H0 F ρ δ σ H (bnd ma k st) Q)
    (hk : ∀ F' ρ' st' H' v r, After ρ F H ρ' F' H' → St0 g H0 F' ρ' δ st' σ H' → RepR g F' ρ' δ σ H H' r v → PostA g W H0 F ρ δ σ H (k r st') Q → R v H') : PostE g W H0 F ρ δ σ H (ma st) R := by
  unfold bnd at h
  match e : ma st, h with
  | none, h => exact h
  | some (.ok r, st'), h => exact fun v ρ' F' H' A S' R' => hk F' ρ' st' H' v r A S' R' h
  | some (.ex x, st'), h => exact h
/-- arguments first -/
theorem PostA_bnd {ma : M (List Rv)} {k : List Rv → M (List Rv)} {R Q : List V → Hp → Prop} (h : PostA g W H0 F ρ δ σ H (bnd ma k st) Q)
    (hk : ∀ F' ρ' st' H' vs rs, After ρ F H ρ' F' H' → St0 g H0 F' ρ' δ st' σ H' → RepRs g F' ρ' δ σ H H' rs vs → PostA g W H0 F ρ δ σ H (k rs st') Q → R vs H') : PostA g W H0 F ρ δ σ H (ma st) R := by
  unfold bnd at h
  match e : ma st, h with
  | none, h => exact h
  | some (.ok r, st'), h => exact fun v ρ' F' H' A S' R' => hk F' ρ' st' H' v r A S' R' h
  | some (.ex x, st'), h => exact h
/-- arguments, then a value of them -/
theorem PostA_bndE {ma : M (List Rv)} {k : List Rv → M Rv} {R : List V → Hp → Prop} {Q : VK} (h : PostE g W H0 F ρ δ σ H (bnd ma k st) Q)
    (hk : ∀ F' ρ' st' H' vs rs, After ρ F H ρ' F' H' → St0 g H0 F' ρ' δ st' σ H' → RepRs g F' ρ' δ σ H H' rs vs → PostE g W H0 F' ρ' δ σ H' (k rs st') Q → R vs H') : PostA g W H0 F ρ δ σ H (ma st) R := by
  unfold bnd at h
  match e : ma st, h with
  | none, h => exact h
  | some (.ok r, st'), h => exact fun v ρ' F' H' A S' R' => hk F' ρ' st' H' v r A S' R' (h.later A)
  | some (.ex x, st'), h => exact h
/-- an expression, then a test's answer -/
theorem PostE_bndT {ma : M Rv} {k : Rv → M Bool} {R : V → Hp → Prop} {Q : Bool → Hp → Prop} (h : PostT g W H0 F ρ δ σ H (bnd ma k st) Q)
    (hk : ∀ F' ρ' st' H' v r, After ρ F H ρ' F' H' → St0 g H0 F' ρ' δ st' σ H' → RepR g F' ρ' δ σ H H' r v → PostT g W H0 F' ρ' δ σ H' (k r st') Q → R v H') : PostE g W H0 F ρ δ σ H (ma st) R := by
  unfold bnd at h
  match e : ma st, h with
  | none, h => exact h
  | some (.ok r, st'), h => exact fun v ρ' F' H' A S' R' => hk F' ρ' st' H' v r A S' R' (h.later A)
  | some (.ex x, st'), h => exact h
/-- a test, then a test -/
theorem PostT_bnd {ma : M Bool} {k : Bool → M Bool} {R Q : Bool → Hp → Prop} (h : PostT g W H0 F ρ δ σ H (bnd ma k st) Q)
    (hk : ∀ F' ρ' st' H' b, After ρ F H ρ' F' H' → St0 g H0 F' ρ' δ st' σ H' → PostT g W H0 F' ρ' δ σ H' (k b st') Q → R b H') : PostT g W H0 F ρ δ σ H (ma st) R := by
  unfold bnd at h
  match e : ma st, h with
  | none, h => exact h
  | some (.ok r, st'), h => exact fun ρ' F' H' A S' => hk F' ρ' st' H' r A S' (h.later A)
  | some (.ex x, st'), h => exact h
/-- a test, then a value -/
theorem PostT_bndE {ma : M Bool} {k : Bool → M Rv} {R : Bool → Hp → Prop} {Q : VK} (h : PostE g W H0 F ρ δ σ H (bnd ma k st) Q)
    (hk : ∀ F' ρ' st' H' b, After ρ F H ρ' F' H' → St0 g H0 F' ρ' δ st' σ H' → PostE g W H0 F' ρ' δ σ H' (k b st') Q → R b H') : PostT g W H0 F ρ δ σ H (ma st) R := by
  unfold bnd at h
  match e : ma st, h with
  | none, h => exact h
  | some (.ok r, st'), h => exact fun ρ' F' H' A S' => hk F' ρ' st' H' r A S' (h.later A)
  | some (.ex x, st'), h => exact h
end

/-! ### constants and names -/
section
variable {C : Ctx}
def gC (d : D) : DEnv → M Rv := fun _ => ret (.fz d)
theorem de_int {i : Int} {j pos} : DE C (.Constant (.int i) j pos) (gC (.int i)) := fun X W ok tk => peW pe_int fun σ H Q ⟨H0, F, ρ, δ, st, S, h⟩ => PostE.done0 h S .int
theorem de_bl {b : Bool} {j pos} : DE C (.Constant (.bool b) j pos) (gC (.bl b)) := fun X W ok tk => peW pe_bl fun σ H Q ⟨H0, F, ρ, δ, st, S, h⟩ => PostE.done0 h S .bl
theorem de_non {j pos} : DE C (.Constant .none j pos) (gC .non) := fun X W ok tk => peW pe_non fun σ H Q ⟨H0, F, ρ, δ, st, S, h⟩ => PostE.done0 h S .non
theorem rep_str {g : GG} {F : Hp} {ρ : List Addr} (x : Str) : Rep g F ρ (.str (tl x)) (.str x) := by
  have e : x = ⟨(tl x).toArray⟩ := (mk_tl x).symm
  have h : Rep g F ρ (.str (tl x)) (.str ⟨(tl x).toArray⟩) := .str
  rw [← e] at h
  exact h
theorem de_str {x : Str} {s : List Nat} {j pos} (e : tl x = s := by decide +kernel) : DE C (.Constant (.str x) j pos) (gC (.str s)) := fun X W ok tk => peW pe_str fun σ H Q ⟨H0, F, ρ, δ, st, S, h⟩ => PostE.done0 h S (by subst e; exact rep_str x)
def gVar (i : Nat) : DEnv → M Rv := fun δ => match δ[i]? with
  | some (some (.fz d)) => ret (.fz d)
  | some (some (.ow _)) => ret (.vw i)
  | _ => fail
theorem de_var {i : Nat} {x : Str} {pos : Pos} (hN : C.N[i]? = some x) (hv : Vis C.sc x) (hd : (x == ("__debug__" : Str)) = false := by decide) (hcd : (x == ("__classdict__" : Str)) = false := by decide) : DE C (.Name x pos) (gVar i) := fun X W ok tk => by
  refine peW (pe_var (i := i) (by rw [ok.N]; exact hN) (by rw [ok.sc]; exact hv) hd hcd) fun σ H Q ⟨H0, F, ρ, δ, st, S, h⟩ => ?_
  unfold gVar at h
  match e : δ[i]? with
  | some (some (.fz d)) =>
    rw [e] at h
    obtain ⟨v, h1, h2⟩ := S.slot i _ e
    exact ⟨v, h1, PostE.done0 h S h2⟩
  | some (some (.ow c)) =>
    rw [e] at h
    obtain ⟨v, h1, h2⟩ := S.slot i _ e
    exact ⟨v, h1, PostE.done0 h S ⟨h1, c, e⟩⟩
  | some none => rw [e] at h; exact h.elim
  | none => rw [e] at h; exact h.elim
/-- a module's constant -/
theorem de_glob {x : Str} {d : D} {v : V} {u : Value} {pos : Pos} (hg : C.sc.names.lookup x = some .globalImplicit) (hm : C.mg x = some u) (r : RelV v u) (hd : ∀ F ρ, Rep C.gg F ρ d v) (hdb : (x == ("__debug__" : Str)) = false := by decide) : DE C (.Name x pos) (gC d) := fun X W ok tk => by
  refine peW (pe_glob (show Gl X x by unfold Gl Env.kindOf; rw [ok.sc]; exact hg) (by rw [ok.mg]; exact hm) r hdb) fun σ H Q ⟨H0, F, ρ, δ, st, S, h⟩ => PostE.done0 h S ?_
  have e : C.gg = xg X := by unfold Ctx.gg xg; rw [ok.K, ok.mg]
  rw [← e]
  exact hd F ρ
end

/-! ### freezing -/
/-- new and owned by nobody: frozen -/
def Con.fz : Con → D
  | .lst ds => .lst ds
  | .dk kvs => .dk kvs
  | .dt kvs => .dt kvs
  | .obj c fs => .obj c fs
  | .tbl x q => .tab x q
def Rv.frz : Rv → Rv
  | .fz d => .fz d
  | .ow c => .fz c.fz
  | .vw i => .vw i
section
variable {g : GG} {W : WX} {H0 F F' H H' H1 : Hp} {ρ ρ' : List Addr} {δ : DEnv} {σ : L2.St} {st st' : Sto} {r : Rv} {rs : List Rv} {v : V} {vs : List V}
/-- what stands at a frozen -/
def frzAt (F H : Hp) (a : Addr) : Hp := fun b => if b = a then H b else F b
theorem same_frz {a : Addr} (h : Same F H) : Same F (frzAt F H a) := fun b o e => by
  unfold frzAt
  split
  · exact h b o e
  · exact e
theorem frz_same {a : Addr} (h : Same F H) : Same (frzAt F H a) H := fun b o e => by
  unfold frzAt at e
  split at e
  · exact e
  · exact h b o e
theorem frz_at {a : Addr} : frzAt F H a a = H a := by unfold frzAt; rw [if_pos rfl]
theorem frz_ne {a b : Addr} (n : b ≠ a) : frzAt F H a b = F b := by
  unfold frzAt
  rw [if_neg n]
theorem ConOk.frz {a : Addr} {c : Con} (h : ConOk g F ρ H a c) (s : Same F H) : Rep g (frzAt F H a) ρ c.fz (.ref a) := by
  have e := same_frz (a := a) s
  have p : ∃ l, ρ = ρ ++ l := ⟨[], by simp⟩
  cases c with
  | lst ds => obtain ⟨vs, h1, r⟩ := h; exact .lst (by rw [frz_at]; exact h1) (r.mono e p)
  | dk kvs => obtain ⟨vs, h1, h2, r⟩ := h; exact .dk (by rw [frz_at]; exact h1) h2 (r.mono e p)
  | dt kvs => obtain ⟨vs, h1, h2, r⟩ := h; exact .dt (by rw [frz_at]; exact h1) h2 (r.mono e p)
  | obj c fs =>
    obtain ⟨C, dx, fvs, h0, h1, h4, r⟩ := h
    exact .obj h0 (by rw [frz_at]; exact h1) h4 (r.mono e p)
  | tbl x q =>
    obtain ⟨h0, ps, h1, h2⟩ := h
    exact .tab h0 (by rw [frz_at]; exact h1) (h2.mono e)
theorem ConOk.frzF {a : Addr} {c : Con} {G : Hp} (h : ConOk g F ρ H a c) (s : Same F G) : ConOk g G ρ H a c :=
  h.kept s ⟨[], by simp⟩ fun o q => q
/-- the state, where what stands at a is frozen: a is no cell and no slot's own -/
theorem St0.frzAt (S : St0 g H0 F ρ δ st σ H) {a : Addr} (na : a ∉ ρ) (ns : ∀ (i : Nat) (c : Con), δ[i]? = some (some (.ow c)) → σ[i]? ≠ some (some (.ref a))) : St0 g H0 (frzAt F H a) ρ δ st σ H := by
  have e := same_frz (a := a) S.fs
  refine ⟨frz_same S.fs, S.len, fun i sv q => ?_, S.dist, S.sto.len, S.sto.nd, S.sto.there, fun n c q => ?_⟩
  · obtain ⟨v, h1, h2⟩ := S.slot i sv q
    refine ⟨v, h1, ?_⟩
    cases sv with
    | fz d => exact Rep.mono e ⟨[], by simp⟩ h2
    | ow c =>
      obtain ⟨b, rfl, e2, e3, e4, e5⟩ := h2
      refine ⟨b, rfl, ?_, e3, e4, e5.frzF e⟩
      rw [frz_ne (fun z => ns i c q (by rw [h1, z]))]
      exact e2
  · obtain ⟨b, h1, h2, h3⟩ := S.sto.live n c q
    refine ⟨b, h1, ?_, h3.frzF e⟩
    rw [frz_ne (fun z => na (by rw [← z]; exact List.mem_of_getElem? h1))]
    exact h2
/-- freezing a new value of an expression that began at F1, H1 -/
theorem frz_new {F1 : Hp} {ρ1 : List Addr} {st1 : Sto} (S1 : St0 g H0 F1 ρ1 δ st1 σ H1) (A : After ρ1 F1 H1 ρ F H) (S : St0 g H0 F ρ δ st σ H) (R : RepR g F ρ δ σ H1 H r v) :
    ∃ F', Same F F' ∧ After ρ1 F1 H1 ρ F' H ∧ St0 g H0 F' ρ δ st σ H ∧ RepR g F' ρ δ σ H1 H r.frz v := by
  cases r with
  | fz d => exact ⟨F, Same.refl F, A, S, R⟩
  | vw i => exact ⟨F, Same.refl F, A, S, R⟩
  | ow c =>
    obtain ⟨a, rfl, f, n, z, k⟩ := R
    refine ⟨DL.frzAt F H a, same_frz S.fs, ⟨A.ff.trans (same_frz S.fs), fun b o h1 h2 => ?_, A.pre, A.hk⟩, S.frzAt n fun i c' q e => ?_, k.frz S.fs⟩
    · by_cases hb : b = a
      · subst hb; exact .inl z
      · rw [frz_ne hb] at h1
        exact A.fn b o h1 h2
    · obtain ⟨v', h1, h2⟩ := S1.slot i _ q
      obtain ⟨b, rfl, _, _, _, k1⟩ := h2
      rw [h1] at e
      cases e
      obtain ⟨o, ho⟩ := k1.there
      rw [z] at ho
      cases ho
end
end DL

/-! DL3: operators, displays. -/
namespace DL
open PySem PySem.Spec PyProof.Rows L2 TL
set_option autoImplicit false

def LIM : Nat := 16777216
theorem lim_eq : sizeLine = LIM := sizeLine_eq
/-! ### how a value is taken -/
def opt {α β : Type} (a : Option α) (f : α → M β) : M β := match a with
  | some a => f a
  | none => fail
theorem opt_some {α β : Type} {a : α} {f : α → M β} : opt (some a) f = f a := rfl
theorem opt_ok {α : Type} {a : Option α} {f : α → M Rv} {g : GG} {W : WX} {H0 F H : Hp} {ρ : List Addr} {δ : DEnv} {st : Sto} {σ : L2.St} {Q : VK} (P : PostE g W H0 F ρ δ σ H (opt a f st) Q) : ∃ i, a = some i ∧ PostE g W H0 F ρ δ σ H (f i st) Q := by
  cases a with
  | none => exact P.elim
  | some i => exact ⟨i, rfl, P⟩
def Rv.asI : Rv → Option Int
  | .fz (.int i) => some i
  | _ => none
def Rv.asB : Rv → Option Bool
  | .fz (.bl b) => some b
  | _ => none
def Rv.asS : Rv → Option (List Nat)
  | .fz (.str s) => some s
  | _ => none
def Rv.asT : Rv → Option (List D)
  | .fz (.tup ds) => some ds
  | _ => none
/-- what slot i owns -/
def ownAt (δ : DEnv) (i : Nat) : Option Con := match δ[i]? with
  | some (some (.ow c)) => some c
  | _ => none
def cellAt (st : Sto) (n : Nat) : Option Con := match st[n]? with
  | some (some c) => some c
  | _ => none
def Rv.con (δ : DEnv) (st : Sto) : Rv → Option Con
  | .fz (.loc n) => cellAt st n
  | .fz (.lst ds) => some (.lst ds)
  | .fz (.dk kvs) => some (.dk kvs)
  | .fz (.dt kvs) => some (.dt kvs)
  | .ow c => some c
  | .vw i => ownAt δ i
  | _ => none
def Rv.asL (δ : DEnv) (st : Sto) (r : Rv) : Option (List D) := match r.con δ st with
  | some (.lst ds) => some ds
  | _ => none
/-- a list or a tuple to be read -/
def Rv.asQ (δ : DEnv) (st : Sto) (r : Rv) : Option (List D) := match r with
  | .fz (.tup ds) => some ds
  | .fz (.rol ds) => some ds
  | r => r.asL δ st
section
variable {g : GG} {W : WX} {H0 F F' H H' H1 : Hp} {ρ ρ' : List Addr} {δ : DEnv} {σ : L2.St} {st st' : Sto} {r : Rv} {rs : List Rv} {v : V} {vs : List V}
theorem asI_v {i : Int} (R : RepR g F ρ δ σ H1 H r v) (e : r.asI = some i) : v = .int i := by
  unfold Rv.asI at e
  split at e
  · cases e; exact Rep.int_v R
  · cases e
theorem asB_v {i : Bool} (R : RepR g F ρ δ σ H1 H r v) (e : r.asB = some i) : v = .bl i := by
  unfold Rv.asB at e
  split at e
  · cases e; exact Rep.bl_v R
  · cases e
theorem asS_v {s : List Nat} (R : RepR g F ρ δ σ H1 H r v) (e : r.asS = some s) : v = .str ⟨s.toArray⟩ := by
  unfold Rv.asS at e
  split at e
  · cases e; exact Rep.str_v R
  · cases e
theorem asT_v {ds : List D} (S : St0 g H0 F ρ δ st σ H) (R : RepR g F ρ δ σ H1 H r v) (e : r.asT = some ds) : ∃ a vs, v = .ref a ∧ SqT g.K H a vs ∧ SqT g.K F a vs ∧ Reps g F ρ ds vs := by
  unfold Rv.asT at e
  split at e
  · cases e
    obtain ⟨a, vs, h1, h2, h3⟩ := Rep.tup_v R
    exact ⟨a, vs, h1, Same.sqT S.fs h2, h2, h3⟩
  · cases e
theorem own_v {i : Nat} {c : Con} (S : St0 g H0 F ρ δ st σ H) (e : ownAt δ i = some c) (h : σ[i]? = some (some v)) : ∃ a, v = .ref a ∧ F a = none ∧ a ∉ ρ ∧ ConOk g F ρ H a c := by
  unfold ownAt at e
  split at e
  · rename_i q
    cases e
    obtain ⟨v', h1, h2⟩ := S.slot i _ q
    rw [h] at h1; cases h1
    obtain ⟨a, e1, e2, e3, _, e5⟩ := h2
    exact ⟨a, e1, e2, e3, e5⟩
  · cases e
theorem con_v {c : Con} (S : St0 g H0 F ρ δ st σ H) (R : RepR g F ρ δ σ H1 H r v) (e : r.con δ st = some c) : ∃ a, v = .ref a ∧ ConOk g F ρ H a c := by
  unfold Rv.con at e
  split at e
  · rename_i n
    unfold cellAt at e
    split at e
    · rename_i q
      cases e
      cases R with
      | loc h1 =>
        obtain ⟨a, h2, h3, h4⟩ := S.sto.live n _ q
        rw [h1] at h2; cases h2
        exact ⟨_, rfl, h4⟩
    · cases e
  · cases e
    obtain ⟨a, vs, h1, h2, h3⟩ := Rep.lst_v R
    exact ⟨a, h1, vs, S.fs _ _ h2, h3⟩
  · cases e
    cases R with
    | dk h1 h2 h3 => exact ⟨_, rfl, _, S.fs _ _ h1, h2, h3⟩
  · cases e
    cases R with
    | dt h1 h2 h3 => exact ⟨_, rfl, _, S.fs _ _ h1, h2, h3⟩
  · cases e
    obtain ⟨a, h1, _, _, _, k⟩ := R
    exact ⟨a, h1, k⟩
  · obtain ⟨h1, _⟩ := R
    obtain ⟨a, e1, _, _, k⟩ := own_v S e h1
    exact ⟨a, e1, k⟩
  · cases e
theorem asL_v {ds : List D} (S : St0 g H0 F ρ δ st σ H) (R : RepR g F ρ δ σ H1 H r v) (e : r.asL δ st = some ds) : ∃ a vs, v = .ref a ∧ H a = some (.lst vs) ∧ Reps g F ρ ds vs := by
  unfold Rv.asL at e
  split at e
  · rename_i q
    cases e
    obtain ⟨a, h1, vs, h2, h3⟩ := con_v S R q
    exact ⟨a, vs, h1, h2, h3⟩
  · cases e
theorem asQ_v {ds : List D} (S : St0 g H0 F ρ δ st σ H) (R : RepR g F ρ δ σ H1 H r v) (e : r.asQ δ st = some ds) : ∃ a vs, v = .ref a ∧ (SqL g.K H a vs ∨ SqT g.K H a vs) ∧ Reps g F ρ ds vs := by
  unfold Rv.asQ at e
  split at e
  · cases e
    obtain ⟨a, vs, h1, h2, h3⟩ := Rep.tup_v R
    exact ⟨a, vs, h1, .inr (Same.sqT S.fs h2), h3⟩
  · cases e
    cases R with
    | rol h1 h2 => exact ⟨_, _, rfl, .inl (Same.seq S.fs h1), h2⟩
  · obtain ⟨a, vs, h1, h2, h3⟩ := asL_v S R e
    exact ⟨a, vs, h1, .inl (.of h2), h3⟩
end

/-! ### new objects -/
section
variable {g : GG} {W : WX} {H0 F F' H H' H1 : Hp} {ρ ρ' : List Addr} {δ : DEnv} {σ : L2.St} {st st' : Sto} {r : Rv} {rs : List Rv} {v : V} {vs : List V} {Q : VK} {ds : List D}
theorem St0.nmem (S : St0 g H0 F ρ δ st σ H) {p : Addr} (n : H p = none) : p ∉ ρ := fun z => by
  obtain ⟨o, e⟩ := S.sto.there p z
  rw [n] at e; cases e
theorem new_tup (h : PostE g W H0 F ρ δ σ H (some (.ok (.fz (.tup ds)), st)) Q) (S : St0 g H0 F ρ δ st σ H) (R : Reps g F ρ ds vs) (p : Addr) (np : H p = none) : Q (.ref p) (upd H p (.tup vs)) := by
  have e := ext_frz (o := .tup vs) S.fs np
  exact h.done S e (.tup (SqT.of upd_same) (R.mono e.ff ⟨[], by simp⟩))
theorem new_lst (h : PostE g W H0 F ρ δ σ H (some (.ok (.fz (.lst ds)), st)) Q) (S : St0 g H0 F ρ δ st σ H) (R : Reps g F ρ ds vs) (p : Addr) (np : H p = none) : Q (.ref p) (upd H p (.lst vs)) := by
  have e := ext_frz (o := .lst vs) S.fs np
  exact h.done S e (.lst upd_same (R.mono e.ff ⟨[], by simp⟩))
theorem new_own (h : PostE g W H0 F ρ δ σ H (some (.ok (.ow (.lst ds)), st)) Q) (S : St0 g H0 F ρ δ st σ H) (R : Reps g F ρ ds vs) (p : Addr) (np : H p = none) : Q (.ref p) (upd H p (.lst vs)) :=
  h.done S (ext_new S.fs np) ⟨p, rfl, S.fs.free np, S.nmem np, np, vs, upd_same, R⟩
theorem new_ownK {kvs : List (Key × D)} {kvv : List (Key × V)} (h : PostE g W H0 F ρ δ σ H (some (.ok (.ow (.dk kvs)), st)) Q) (S : St0 g H0 F ρ δ st σ H) (k : kvs.map Prod.fst = kvv.map Prod.fst) (R : Reps g F ρ (kvs.map Prod.snd) (kvv.map Prod.snd)) (p : Addr) (np : H p = none) : Q (.ref p) (upd H p (.dK kvv)) :=
  h.done S (ext_new S.fs np) ⟨p, rfl, S.fs.free np, S.nmem np, np, kvv, upd_same, k, R⟩
theorem new_ownT {kvs : List (List Key × D)} {kvv : List (List Key × V)} (h : PostE g W H0 F ρ δ σ H (some (.ok (.ow (.dt kvs)), st)) Q) (S : St0 g H0 F ρ δ st σ H) (k : kvs.map Prod.fst = kvv.map Prod.fst) (R : Reps g F ρ (kvs.map Prod.snd) (kvv.map Prod.snd)) (p : Addr) (np : H p = none) : Q (.ref p) (upd H p (.dT kvv)) :=
  h.done S (ext_new S.fs np) ⟨p, rfl, S.fs.free np, S.nmem np, np, kvv, upd_same, k, R⟩
end

/-! ### arguments, displays -/
def gFrz (ga : DEnv → M Rv) : DEnv → M Rv := fun δ => bnd (ga δ) fun r => ret r.frz
def gNil : DEnv → M (List Rv) := fun _ => ret []
def gCons (ga : DEnv → M Rv) (gr : DEnv → M (List Rv)) : DEnv → M (List Rv) := fun δ => bnd (ga δ) fun r => bnd (gr δ) fun rs => ret (r.frz :: rs)
def allD : List Rv → Option (List D)
  | [] => some []
  | .fz d :: rs => (allD rs).map (d :: ·)
  | _ :: _ => none
def gTup (gs : DEnv → M (List Rv)) : DEnv → M Rv := fun δ => bnd (gs δ) fun rs => match allD rs with
  | some ds => if ds.length ≤ LIM then ret (.fz (.tup ds)) else fail
  | none => fail
def gLst (gs : DEnv → M (List Rv)) : DEnv → M Rv := fun δ => bnd (gs δ) fun rs => match allD rs with
  | some ds => if ds.length ≤ LIM then ret (.ow (.lst ds)) else fail
  | none => fail
section
variable {g : GG} {W : WX} {H0 F F' H H' H1 : Hp} {ρ ρ' : List Addr} {δ : DEnv} {σ : L2.St} {st st' : Sto} {r : Rv} {rs : List Rv} {v : V} {vs : List V} {Q : VK} {ds : List D}
theorem allD_ok : ∀ {rs : List Rv} {vs : List V} {ds : List D}, RepRs g F ρ δ σ H1 H rs vs → allD rs = some ds → Reps g F ρ ds vs
  | _, _, _, .nil, e => by cases e; exact .nil
  | .fz d :: rs, v :: vs, ds, .cons r t, e => by
    unfold allD at e
    cases q : allD rs with
    | none => rw [q] at e; cases e
    | some es => rw [q] at e; cases e; exact .cons r (allD_ok t q)
  | .ow c :: rs, _, _, .cons r t, e => by cases e
  | .vw c :: rs, _, _, .cons r t, e => by cases e
end
section
variable {C : Ctx} {e : Expr} {es : List Expr} {ga gb : DEnv → M Rv} {gs : DEnv → M (List Rv)} {pos : Pos}
theorem frz_any {g : GG} {F : Hp} {ρ : List Addr} {δ : DEnv} {σ : L2.St} {H1 H2 H : Hp} {r : Rv} {v : V} (R : RepR g F ρ δ σ H1 H r.frz v) : RepR g F ρ δ σ H2 H r.frz v := by
  cases r with
  | fz d => exact R
  | ow c => exact R
  | vw i => exact R
theorem de_frz (h : DE C e ga) : DE C e (gFrz ga) := fun X W ok tk => peW (h X W ok tk) fun σ H Q ⟨H0, F, ρ, δ, st, S, q⟩ => by
  refine ⟨H0, F, ρ, δ, st, S, PostE_bnd0 q fun F' ρ' st' H' v r A S' R' P' => ?_⟩
  obtain ⟨F2, s2, A2, S2, R2⟩ := frz_new S A S' R'
  exact P' v ρ' F2 H' A2 S2 R2
theorem da_nil : DA C [] gNil := fun X W ok tk => paW pa_nil fun σ H Q ⟨H0, F, ρ, δ, st, S, q⟩ => q [] ρ F H .refl S .nil
/-- no star in an argument -/
def noStar : Expr → Bool
  | .Starred .. => false
  | _ => true
theorem star_eq {e : Expr} {es : List Expr} {env : Env} (h : noStar e = true) : starEach (e :: es) env = (false, eval e env) :: starEach es env := by
  cases e <;> first | rfl | cases h
theorem da_cons (h : DE C e ga) (hs : DA C es gs) (hn : noStar e = true := by rfl) : DA C (e :: es) (gCons ga gs) := fun X W ok tk => by
  refine paW (pa_cons (h X W ok tk) (hs X W ok tk) (star_eq hn)) fun σ H Q ⟨H0, F, ρ, δ, st, S, q⟩ => ?_
  refine ⟨H0, F, ρ, δ, st, S, PostE_bndA q fun F' ρ' st' H' v r A S' R' P' => ?_⟩
  obtain ⟨F2, s2, A2, S2, R2⟩ := frz_new S A S' R'
  refine ⟨H0, F2, ρ', δ, st', S2, PostA_bnd (P'.later A2) fun F3 ρ3 st3 H3 vs rs A3 S3 R3 P3 => ?_⟩
  exact P3 (v :: vs) ρ3 F3 H3 A3 S3 (.cons (frz_any (R2.mono A3)) R3)
theorem de_tup {k : Nat} (hs : DA C es gs) : DE C (.Tuple es k pos) (gTup gs) := fun X W ok tk => by
  refine peW (pe_tup (hs X W ok tk)) fun σ H Q ⟨H0, F, ρ, δ, st, S, q⟩ => ?_
  refine ⟨H0, F, ρ, δ, st, S, PostA_bndE q fun F' ρ' st' H' vs rs A S' R' P' => ?_⟩
  cases e : allD rs with
  | none => rw [e] at P'; exact P'.elim
  | some ds =>
    rw [e] at P'
    by_cases hl : ds.length ≤ LIM
    · simp only [if_pos hl] at P'
      have R2 := allD_ok R' e
      exact ⟨by rw [← R2.length, lim_eq]; exact hl, fun p np => new_tup P' S' R2 p np⟩
    · simp only [if_neg hl] at P'; exact P'.elim
theorem de_lst (hs : DA C es gs) : DE C (.List es pos) (gLst gs) := fun X W ok tk => by
  refine peW (pe_lst (hs X W ok tk)) fun σ H Q ⟨H0, F, ρ, δ, st, S, q⟩ => ?_
  refine ⟨H0, F, ρ, δ, st, S, PostA_bndE q fun F' ρ' st' H' vs rs A S' R' P' => ?_⟩
  cases e : allD rs with
  | none => rw [e] at P'; exact P'.elim
  | some ds =>
    rw [e] at P'
    by_cases hl : ds.length ≤ LIM
    · simp only [if_pos hl] at P'
      have R2 := allD_ok R' e
      exact ⟨by rw [← R2.length, lim_eq]; exact hl, fun p np => new_own P' S' R2 p np⟩
    · simp only [if_neg hl] at P'; exact P'.elim
end

/-! ### operators -/
/-- a two-place operation on values -/
abbrev K2 := DEnv → Rv → Rv → M Rv
abbrev K1 := DEnv → Rv → M Rv
def OpD (X : Cx) (r : R2) (k : K2) : Prop := ∀ W H0 F ρ δ st σ H Hs Ht x y v u Q, St0 (xg X) H0 F ρ δ st σ H → RepR (xg X) F ρ δ σ Hs H x v → RepR (xg X) F ρ δ σ Ht H y u → PostE (xg X) W H0 F ρ δ σ H (k δ x y st) Q → r v u H Q
def UnD (X : Cx) (r : V → Hp → VK → Prop) (k : K1) : Prop := ∀ W H0 F ρ δ st σ H Hs x v Q, St0 (xg X) H0 F ρ δ st σ H → RepR (xg X) F ρ δ σ Hs H x v → PostE (xg X) W H0 F ρ δ σ H (k δ x st) Q → r v H Q
def gBin (k : K2) (ga gb : DEnv → M Rv) : DEnv → M Rv := fun δ => bnd (ga δ) fun x => bnd (gb δ) fun y => k δ x y
def gUn (k : K1) (ga : DEnv → M Rv) : DEnv → M Rv := fun δ => bnd (ga δ) fun x => k δ x
/-- an operator's function k, whatever rule it leans on -/
def OpK (C : Ctx) (op : Operator) (k : K2) : Prop := ∀ X, CtxOk C X → ∃ r, OpR X (binaryOp op) r ∧ OpD X r k
def CmpK (C : Ctx) (op : CmpOp) (k : K2) : Prop := ∀ X, CtxOk C X → ∃ r, OpR X (compareOp op) r ∧ OpD X r k
def IpK (C : Ctx) (op : Operator) (k : K2) : Prop := ∀ X, CtxOk C X → ∃ r, OpR X (inplaceOp op) r ∧ OpD X r k
section
variable {C : Ctx} {a b : Expr} {ga gb : DEnv → M Rv} {pos : Pos}
theorem bin_rd {X : Cx} {W : WX} {r : R2} {k : K2} (hk : OpD X r k) {σ : L2.St} {H : Hp} {Q : VK} (h : rdE (xg X) W (gBin k ga gb) σ H Q) : tOp r (rdE (xg X) W ga) (rdE (xg X) W gb) σ H Q := by
  refine rdE_bnd h fun H0 F ρ δ st Hs H v x S R P => ?_
  exact ⟨H0, F, ρ, δ, st, S, PostE_bnd P fun F' ρ' st' H' u y A S' R' P' => hk W H0 F' ρ' δ st' σ H' Hs H x y v u Q S' (R.mono A) R' P'⟩
theorem de_bin {op : Operator} {k : K2} (ho : OpK C op k) (ha : DE C a ga) (hb : DE C b gb) : DE C (.BinOp a op b pos) (gBin k ga gb) := fun X W ok tk => by
  obtain ⟨r, h1, h2⟩ := ho X ok
  exact peW (pe_op h1 (ha X W ok tk) (hb X W ok tk)) fun σ H Q h => bin_rd h2 h
theorem de_cmp {op : CmpOp} {k : K2} (ho : CmpK C op k) (ha : DE C a ga) (hb : DE C b gb) (hm : behindInMarks op b = false := by first | exact nomark _ | rfl) : DE C (.Compare a [op] [b] pos) (gBin k ga gb) := fun X W ok tk => by
  obtain ⟨r, h1, h2⟩ := ho X ok
  exact peW (pe_cmpR h1 (ha X W ok tk) (hb X W ok tk) hm) fun σ H Q h => bin_rd h2 h
end

/-! ### the operators' functions -/
def kI (f : Int → Int → M Rv) : K2 := fun _ x y => opt x.asI fun i => opt y.asI fun j => f i j
def kOr (k k' : K2) (p : DEnv → Rv → Rv → Bool) : K2 := fun δ x y => if p δ x y then k δ x y else k' δ x y
def isII (_ : DEnv) (x y : Rv) : Bool := x.asI.isSome && y.asI.isSome
def isSS (_ : DEnv) (x y : Rv) : Bool := x.asS.isSome && y.asS.isSome
def isTT (_ : DEnv) (x y : Rv) : Bool := x.asT.isSome && y.asT.isSome
def riv (i : Int) : M Rv := ret (.fz (.int i))
def rbv (b : Bool) : M Rv := ret (.fz (.bl b))
def rsv (s : List Nat) : M Rv := ret (.fz (.str s))
def kAddI : K2 := kI fun i j => riv (i + j)
def kSub : K2 := kI fun i j => riv (i - j)
/-- one factor of at most 64 bits, or both not too wide -/
def mulOk (i j : Int) : Bool := decide (-(2 ^ 64) < i ∧ i < 2 ^ 64) || decide (-(2 ^ 64) < j ∧ j < 2 ^ 64) || decide (i.natAbs.log2 + j.natAbs.log2 < 1000000)
def kMulI : K2 := kI fun i j => if mulOk i j then riv (i * j) else fail
def divOk (j : Int) : Bool := decide (0 < j ∧ j.natAbs.log2 < 9000)
def kDiv : K2 := kI fun i j => if divOk j then riv (i / j) else fail
def kMod : K2 := kI fun i j => if 0 < j then riv (i % j) else fail
def kPow : K2 := kI fun i j => if 0 ≤ j ∧ j ≤ 1000000 ∧ i.natAbs < 2 ^ 64 then riv (i ^ j.toNat) else fail
def kAddS : K2 := fun _ x y => opt x.asS fun s => opt y.asS fun t => if s.length + t.length ≤ LIM then rsv (s ++ t) else fail
def kAddL : K2 := fun δ x y st => (opt (x.asL δ st) fun xs => opt (y.asL δ st) fun ys => if xs.length + ys.length ≤ LIM then ret (.ow (.lst (xs ++ ys))) else fail) st
def kAddT : K2 := fun _ x y => opt x.asT fun xs => opt y.asT fun ys => if xs.length + ys.length ≤ LIM then ret (.fz (.tup (xs ++ ys))) else fail
def kAdd : K2 := kOr kAddI (kOr kAddS (kOr kAddT kAddL isTT) isSS) isII
/-- a list times an int; a tuple times an int -/
def kMulL : K2 := fun δ x y st => (opt (x.asL δ st) fun xs => opt y.asI fun j => if -(2 ^ 63) ≤ j ∧ j < 2 ^ 63 ∧ xs.length * j.toNat ≤ LIM then ret (.ow (.lst (List.replicate j.toNat xs).flatten)) else fail) st
def kMulT : K2 := fun _ x y => opt x.asT fun xs => opt y.asI fun j => if xs ≠ [] ∧ 2 ≤ j ∧ j ≤ 1000 ∧ xs.length ≤ 1000 then ret (.fz (.tup (List.replicate j.toNat xs).flatten)) else fail
def isTI (_ : DEnv) (x y : Rv) : Bool := x.asT.isSome && y.asI.isSome
def kMul : K2 := kOr kMulI (kOr kMulT kMulL isTI) isII
section
variable {C : Ctx}
theorem OpK.or {op : Operator} {k k' : K2} {p : DEnv → Rv → Rv → Bool} (h : OpK C op k) (h' : OpK C op k') : OpK C op (kOr k k' p) := fun X ok => by
  obtain ⟨r, h1, h2⟩ := h X ok
  obtain ⟨r', h1', h2'⟩ := h' X ok
  refine ⟨_, h1.or h1', fun W H0 F ρ δ st σ H Hs Ht x y v u Q S R R' P => ?_⟩
  unfold kOr at P
  split at P
  · exact .inl (h2 W H0 F ρ δ st σ H Hs Ht x y v u Q S R R' P)
  · exact .inr (h2' W H0 F ρ δ st σ H Hs Ht x y v u Q S R R' P)
theorem CmpK.or {op : CmpOp} {k k' : K2} {p : DEnv → Rv → Rv → Bool} (h : CmpK C op k) (h' : CmpK C op k') : CmpK C op (kOr k k' p) := fun X ok => by
  obtain ⟨r, h1, h2⟩ := h X ok
  obtain ⟨r', h1', h2'⟩ := h' X ok
  refine ⟨_, h1.or h1', fun W H0 F ρ δ st σ H Hs Ht x y v u Q S R R' P => ?_⟩
  unfold kOr at P
  split at P
  · exact .inl (h2 W H0 F ρ δ st σ H Hs Ht x y v u Q S R R' P)
  · exact .inr (h2' W H0 F ρ δ st σ H Hs Ht x y v u Q S R R' P)
/-- from an operation of two ints -/
theorem kI_ok {X : Cx} {r : R2} {f : Int → Int → M Rv} (h : ∀ W H0 F ρ δ st σ H i j Q, St0 (xg X) H0 F ρ δ st σ H → PostE (xg X) W H0 F ρ δ σ H (f i j st) Q → r (.int i) (.int j) H Q) : OpD X r (kI f) := fun W H0 F ρ δ st σ H Hs Ht x y v u Q S R R' P => by
  unfold kI at P
  obtain ⟨i, e1, P⟩ := opt_ok P
  obtain ⟨j, e2, P⟩ := opt_ok P
  rw [asI_v R e1, asI_v R' e2]
  exact h _ _ _ _ _ _ _ _ _ _ _ S P
theorem pI {X : Cx} {W : WX} {H0 F H : Hp} {ρ : List Addr} {δ : DEnv} {st : Sto} {σ : L2.St} {i : Int} {Q : VK} (S : St0 (xg X) H0 F ρ δ st σ H) (P : PostE (xg X) W H0 F ρ δ σ H (riv i st) Q) : Q (.int i) H := PostE.done0 P S .int
theorem pB {X : Cx} {W : WX} {H0 F H : Hp} {ρ : List Addr} {δ : DEnv} {st : Sto} {σ : L2.St} {i : Bool} {Q : VK} (S : St0 (xg X) H0 F ρ δ st σ H) (P : PostE (xg X) W H0 F ρ δ σ H (rbv i st) Q) : Q (.bl i) H := PostE.done0 P S .bl
theorem pS {X : Cx} {W : WX} {H0 F H : Hp} {ρ : List Addr} {δ : DEnv} {st : Sto} {σ : L2.St} {i : List Nat} {Q : VK} (S : St0 (xg X) H0 F ρ δ st σ H) (P : PostE (xg X) W H0 F ρ δ σ H (rsv i st) Q) : Q (.str ⟨i.toArray⟩) H := PostE.done0 P S .str
theorem ok_addI : OpK C .Add kAddI := fun X ok => ⟨_, op_add, kI_ok fun W H0 F ρ δ st σ H i j Q S P => ⟨i, j, rfl, rfl, pI S P⟩⟩
theorem ok_sub : OpK C .Sub kSub := fun X ok => ⟨_, op_sub, kI_ok fun W H0 F ρ δ st σ H i j Q S P => ⟨i, j, rfl, rfl, pI S P⟩⟩
theorem ok_mulI : OpK C .Mult kMulI := fun X ok => ⟨_, op_mul.or op_mulW, kI_ok fun W H0 F ρ δ st σ H i j Q S P => by
  split at P
  · rename_i h
    unfold mulOk at h
    simp only [Bool.or_eq_true, decide_eq_true_eq] at h
    rcases h with h | h
    · exact .inl ⟨i, j, rfl, rfl, h, pI S P⟩
    · exact .inr ⟨i, j, rfl, rfl, h, pI S P⟩
  · exact P.elim⟩
theorem ok_div : OpK C .FloorDiv kDiv := fun X ok => ⟨_, op_fdivW, kI_ok fun W H0 F ρ δ st σ H i j Q S P => by
  split at P
  · rename_i h
    unfold divOk at h
    simp only [decide_eq_true_eq] at h
    exact ⟨i, j, rfl, rfl, h, pI S P⟩
  · exact P.elim⟩
theorem ok_mod : OpK C .Mod kMod := fun X ok => ⟨_, op_mod, kI_ok fun W H0 F ρ δ st σ H i j Q S P => by
  split at P
  · rename_i h
    exact ⟨i, j, rfl, rfl, h, pI S P⟩
  · exact P.elim⟩
theorem ok_pow : OpK C .Pow kPow := fun X ok => ⟨_, op_pow, kI_ok fun W H0 F ρ δ st σ H i j Q S P => by
  split at P
  · rename_i h
    exact ⟨i, j, rfl, rfl, h, pI S P⟩
  · exact P.elim⟩
theorem app_str (s t : List Nat) : (⟨s.toArray⟩ : Str) ++ (⟨t.toArray⟩ : Str) = ⟨(s ++ t).toArray⟩ := ext_tl (by rw [tl_append, tl_mk, tl_mk, tl_mk])
theorem len_mk (s : List Nat) : Str.length ⟨s.toArray⟩ = s.length := by rw [len_tl, tl_mk]
theorem ok_addS : OpK C .Add kAddS := fun X ok => ⟨_, op_add_str, fun W H0 F ρ δ st σ H Hs Ht x y v u Q S R R' P => by
  unfold kAddS at P
  obtain ⟨s, e1, P⟩ := opt_ok P
  obtain ⟨t, e2, P⟩ := opt_ok P
  split at P
  · rename_i h
    refine ⟨_, _, asS_v R e1, asS_v R' e2, by rw [len_mk, len_mk, lim_eq]; exact h, ?_⟩
    rw [app_str]
    exact pS S P
  · exact P.elim⟩
theorem ok_addL : OpK C .Add kAddL := fun X ok => ⟨_, op_cat, fun W H0 F ρ δ st σ H Hs Ht x y v u Q S R R' P => by
  unfold kAddL at P
  obtain ⟨s, e1, P⟩ := opt_ok P
  obtain ⟨t, e2, P⟩ := opt_ok P
  obtain ⟨a, vs, rfl, h1, r1⟩ := asL_v S R e1
  obtain ⟨b, ws, rfl, h2, r2⟩ := asL_v S R' e2
  split at P
  · rename_i h
    exact ⟨a, b, vs, ws, rfl, rfl, h1, h2, by rw [← r1.length, ← r2.length, lim_eq]; exact h, fun p np => new_own P S (r1.append r2) p np⟩
  · exact P.elim⟩
theorem ok_addT : OpK C .Add kAddT := fun X ok => ⟨_, op_catA, fun W H0 F ρ δ st σ H Hs Ht x y v u Q S R R' P => by
  unfold kAddT at P
  obtain ⟨s, e1, P⟩ := opt_ok P
  obtain ⟨t, e2, P⟩ := opt_ok P
  obtain ⟨a, vs, rfl, h1, f1, r1⟩ := asT_v S R e1
  obtain ⟨b, ws, rfl, h2, f2, r2⟩ := asT_v S R' e2
  split at P
  · rename_i h
    refine ⟨a, b, vs, ws, rfl, rfl, h1, h2, by rw [← r1.length, ← r2.length, lim_eq]; exact h, fun e => ?_, fun _ e => ?_, fun _ _ p np => new_tup P S (r1.append r2) p np⟩
    · subst e
      cases r1
      exact PostE.done0 P S (.tup f2 r2)
    · subst e
      cases r2
      rw [List.append_nil] at P
      exact PostE.done0 P S (.tup f1 r1)
  · exact P.elim⟩
theorem ok_add : OpK C .Add kAdd := ok_addI.or (ok_addS.or (ok_addT.or ok_addL))
theorem ok_mulL : OpK C .Mult kMulL := fun X ok => ⟨_, op_rep, fun W H0 F ρ δ st σ H Hs Ht x y v u Q S R R' P => by
  unfold kMulL at P
  obtain ⟨s, e1, P⟩ := opt_ok P
  obtain ⟨t, e2, P⟩ := opt_ok P
  obtain ⟨a, vs, rfl, h1, r1⟩ := asL_v S R e1
  split at P
  · rename_i h
    exact ⟨a, t, vs, rfl, asI_v R' e2, h1, h.1, h.2.1, by rw [← r1.length, lim_eq]; exact h.2.2, fun p np => new_own P S (r1.rep _) p np⟩
  · exact P.elim⟩
theorem ok_mulT : OpK C .Mult kMulT := fun X ok => ⟨_, op_repT, fun W H0 F ρ δ st σ H Hs Ht x y v u Q S R R' P => by
  unfold kMulT at P
  obtain ⟨s, e1, P⟩ := opt_ok P
  obtain ⟨t, e2, P⟩ := opt_ok P
  obtain ⟨a, vs, rfl, h1, f1, r1⟩ := asT_v S R e1
  split at P
  · rename_i h
    refine ⟨a, t, vs, rfl, asI_v R' e2, h1, fun e => ?_, h.2.1, h.2.2.1, by rw [← r1.length]; exact h.2.2.2, fun p np => new_tup P S (r1.rep _) p np⟩
    subst e
    cases r1
    exact h.1 rfl
  · exact P.elim⟩
theorem ok_mul : OpK C .Mult kMul := ok_mulI.or (ok_mulT.or ok_mulL)
end
end DL

/-! DL4: comparisons, tests, and, or, not, if-expressions. -/
namespace DL
open PySem PySem.Spec PyProof.Rows L2 TL
set_option autoImplicit false

/-! ### data as the library's equality takes it -/
mutual
def D.py : D → Option PyData
  | .non => some .none
  | .bl b => some (.bool b)
  | .int i => some (.int i)
  | .str s => some (.str ⟨s.toArray⟩)
  | .tup ds => (pyAll ds).map .tuple
  | .lst ds => (pyAll ds).map .list
  | .rol ds => none
  | .obj _ _ => none
  | .dk _ => none
  | .dt _ => none
  | .loc _ => none
  | .ty _ => none
  | .exc _ _ => none
  | .tab _ _ => none
def pyAll : List D → Option (List PyData)
  | [] => some []
  | d :: ds => match D.py d, pyAll ds with
    | some p, some ps => some (p :: ps)
    | _, _ => none
end
def D.shaped (d : D) : Bool := match d.py with
  | some p => SeqAt.shaped p
  | none => false
def D.eqv (d e : D) : Bool := match d.py, e.py with
  | some p, some q => PyData.eqv p q
  | _, _ => false
section
variable {g : GG} {F H : Hp} {ρ : List Addr}
mutual
theorem py_dp (hs : Same F H) : ∀ {d : D} {v : V} {p : PyData}, Rep g F ρ d v → d.py = some p → Dp g.K H v p
  | .non, _, p, r, e => by rw [D.py] at e; cases e; rw [Rep.non_v r]; exact .non
  | .bl b, _, p, r, e => by rw [D.py] at e; cases e; rw [Rep.bl_v r]; exact .bl b
  | .int b, _, p, r, e => by rw [D.py] at e; cases e; rw [Rep.int_v r]; exact .int b
  | .str b, _, p, r, e => by rw [D.py] at e; cases e; rw [Rep.str_v r]; exact .str _
  | .tup ds, _, p, r, e => by
    rw [D.py] at e
    cases q : pyAll ds with
    | none => rw [q] at e; cases e
    | some ps =>
      rw [q] at e; cases e
      obtain ⟨a, vs, rfl, h1, h2⟩ := Rep.tup_v r
      exact .tup (Same.sqT hs h1) (py_dps hs h2 q)
  | .lst ds, _, p, r, e => by
    rw [D.py] at e
    cases q : pyAll ds with
    | none => rw [q] at e; cases e
    | some ps =>
      rw [q] at e; cases e
      obtain ⟨a, vs, rfl, h1, h2⟩ := Rep.lst_v r
      exact .lst (.of (hs _ _ h1)) (py_dps hs h2 q)
  | .rol ds, _, p, r, e => by rw [D.py] at e; cases e
  | .obj _ _, _, p, r, e => by rw [D.py] at e; cases e
  | .dk _, _, p, r, e => by rw [D.py] at e; cases e
  | .dt _, _, p, r, e => by rw [D.py] at e; cases e
  | .loc _, _, p, r, e => by rw [D.py] at e; cases e
  | .ty _, _, p, r, e => by rw [D.py] at e; cases e
  | .exc _ _, _, p, r, e => by rw [D.py] at e; cases e
  | .tab _ _, _, p, r, e => by rw [D.py] at e; cases e
theorem py_dps (hs : Same F H) : ∀ {ds : List D} {vs : List V} {ps : List PyData}, Reps g F ρ ds vs → pyAll ds = some ps → DpAll g.K H vs ps
  | [], _, ps, r, e => by rw [pyAll] at e; cases e; cases r; exact .nil
  | d :: ds, _, ps, r, e => by
    rw [pyAll] at e
    cases r with
    | cons r t =>
      cases q1 : D.py d with
      | none => rw [q1] at e; cases e
      | some p =>
        cases q2 : pyAll ds with
        | none => rw [q1, q2] at e; cases e
        | some ps' =>
          rw [q1, q2] at e; cases e
          exact .cons (py_dp hs r q1) (py_dps hs t q2)
end
end
/-- the data of a value that is read -/
def Rv.dat (δ : DEnv) : Rv → Option D
  | .fz d => some d
  | .ow c => some c.fz
  | .vw i => (ownAt δ i).map Con.fz
section
variable {g : GG} {W : WX} {H0 F F' H H' H1 : Hp} {ρ ρ' : List Addr} {δ : DEnv} {σ : L2.St} {st st' : Sto} {r : Rv} {rs : List Rv} {v : V} {vs : List V}
/-- the data stands over the heap itself -/
theorem dat_v {d : D} (S : St0 g H0 F ρ δ st σ H) (R : RepR g F ρ δ σ H1 H r v) (e : r.dat δ = some d) : Rep g H ρ d v := by
  have p : ∃ l, ρ = ρ ++ l := ⟨[], by simp⟩
  have key : ∀ {a : Addr} {c : Con}, ConOk g F ρ H a c → Rep g H ρ c.fz (.ref a) := fun {a c} k => by
    cases c with
    | lst ds => obtain ⟨vs, h1, r⟩ := k; exact .lst h1 (r.mono S.fs p)
    | dk kvs => obtain ⟨vs, h1, h2, r⟩ := k; exact .dk h1 h2 (r.mono S.fs p)
    | dt kvs => obtain ⟨vs, h1, h2, r⟩ := k; exact .dt h1 h2 (r.mono S.fs p)
    | obj c fs => obtain ⟨C, dx, fvs, h0, h1, h4, r⟩ := k; exact .obj h0 h1 h4 (r.mono S.fs p)
    | tbl x q => obtain ⟨h0, ps, h1, h2⟩ := k; exact .tab h0 h1 (h2.mono S.fs)
  cases r with
  | fz d' => cases e; exact Rep.mono S.fs p R
  | ow c =>
    cases e
    obtain ⟨a, rfl, _, _, _, k⟩ := R
    exact key k
  | vw i =>
    cases q : ownAt δ i with
    | none => change (ownAt δ i).map Con.fz = some d at e; rw [q] at e; cases e
    | some c =>
      change (ownAt δ i).map Con.fz = some d at e; rw [q] at e; cases e
      obtain ⟨a, rfl, _, _, k⟩ := own_v S q R.1
      exact key k
end

/-! ### == and its like -/
def kS (f : List Nat → List Nat → M Rv) : K2 := fun _ x y => opt x.asS fun s => opt y.asS fun t => f s t
def kEqD (n : Bool) : K2 := fun δ x y => opt (x.dat δ) fun d => opt (y.dat δ) fun e => if d.shaped && e.shaped then rbv (xor n (d.eqv e)) else fail
def kEq (n : Bool) : K2 := kOr (kI fun i j => rbv (xor n (decide (i = j)))) (kOr (kS fun s t => rbv (xor n (decide (s = t)))) (kEqD n) isSS) isII
def kLt : K2 := kOr (kI fun i j => rbv (decide (i < j))) (kS fun s t => rbv (decide (s < t))) isII
def kLe : K2 := kOr (kI fun i j => rbv (decide (i ≤ j))) (kS fun s t => rbv (!decide (t < s))) isII
def kGt : K2 := kOr (kI fun i j => rbv (decide (j < i))) (kS fun s t => rbv (decide (t < s))) isII
def kGe : K2 := kOr (kI fun i j => rbv (decide (j ≤ i))) (kS fun s t => rbv (!decide (s < t))) isII
def Rv.isNon : Rv → Bool
  | .fz .non => true
  | _ => false
def kIsN (n : Bool) : K2 := fun _ x y => if y.isNon then rbv (xor n x.isNon) else fail
def kIsB (n : Bool) : K2 := fun _ x y => opt x.asB fun a => opt y.asB fun b => rbv (xor n (decide (a = b)))
def isBB (_ : DEnv) (x y : Rv) : Bool := x.asB.isSome && y.asB.isSome
def kIs (n : Bool) : K2 := kOr (kIsB n) (kIsN n) isBB
/-- a flat item -/
def D.flat : D → Bool
  | .non => true
  | .bl _ => true
  | .int _ => true
  | .str _ => true
  | _ => false
def eqF : D → D → Bool
  | .non, .non => true
  | .bl a, .bl b => a == b
  | .bl a, .int b => (if a then 1 else 0) == b
  | .int a, .bl b => a == (if b then 1 else 0)
  | .int a, .int b => a == b
  | .str a, .str b => decide (a = b)
  | _, _ => false
def inD (x : D) (ds : List D) : Bool := ds.any fun d => eqF d x
def kInQ (n : Bool) : K2 := fun δ x y st => (opt (x.dat δ) fun d => opt (y.asQ δ st) fun ds => if d.flat && ds.all D.flat then rbv (xor n (inD d ds)) else fail) st
/-- one sign in a text -/
def kInS (n : Bool) : K2 := kS fun s t => match s with
  | [c] => rbv (xor n (decide (c ∈ t)))
  | _ => fail
def kIn (n : Bool) : K2 := kOr (kInS n) (kInQ n) isSS
section
variable {C : Ctx}
theorem kS_ok {X : Cx} {r : R2} {f : List Nat → List Nat → M Rv} (h : ∀ W H0 F ρ δ st σ H s t Q, St0 (xg X) H0 F ρ δ st σ H → PostE (xg X) W H0 F ρ δ σ H (f s t st) Q → r (.str ⟨s.toArray⟩) (.str ⟨t.toArray⟩) H Q) : OpD X r (kS f) := fun W H0 F ρ δ st σ H Hs Ht x y v u Q S R R' P => by
  unfold kS at P
  obtain ⟨i, e1, P⟩ := opt_ok P
  obtain ⟨j, e2, P⟩ := opt_ok P
  rw [asS_v R e1, asS_v R' e2]
  exact h _ _ _ _ _ _ _ _ _ _ _ S P
theorem str_inj {s t : List Nat} : (⟨s.toArray⟩ : Str) = ⟨t.toArray⟩ ↔ s = t := by
  refine ⟨fun e => ?_, fun e => by rw [e]⟩
  have := congrArg tl e
  rwa [tl_mk, tl_mk] at this
theorem dec_iff {p q : Prop} [Decidable p] [Decidable q] (h : p ↔ q) : decide p = decide q := by
  by_cases hp : p
  · rw [decide_eq_true hp, decide_eq_true (h.mp hp)]
  · rw [decide_eq_false hp, decide_eq_false fun z => hp (h.mpr z)]
theorem ok_eqI (n : Bool) : CmpK C (if n then .NotEq else .Eq) (kI fun i j => rbv (xor n (decide (i = j)))) := fun X ok => by
  cases n with
  | false => exact ⟨_, op_eq, kI_ok fun W H0 F ρ δ st σ H i j Q S P => ⟨rfl, by
      have := pB S P
      rw [Bool.false_xor] at this
      rw [dec_iff (show V.int i = V.int j ↔ i = j from ⟨V.int.inj, fun e => by rw [e]⟩)]
      exact this⟩⟩
  | true => exact ⟨_, op_ne, kI_ok fun W H0 F ρ δ st σ H i j Q S P => ⟨rfl, by
      have := pB S P
      rw [Bool.true_xor] at this
      rw [dec_iff (show V.int i = V.int j ↔ i = j from ⟨V.int.inj, fun e => by rw [e]⟩)]
      exact this⟩⟩
theorem ok_eqS (n : Bool) : CmpK C (if n then .NotEq else .Eq) (kS fun i j => rbv (xor n (decide (i = j)))) := fun X ok => by
  have key : ∀ s t : List Nat, V.str ⟨s.toArray⟩ = V.str ⟨t.toArray⟩ ↔ s = t := fun s t => ⟨fun e => str_inj.mp (V.str.inj e), fun e => by rw [e]⟩
  cases n with
  | false => exact ⟨_, op_eq, kS_ok fun W H0 F ρ δ st σ H i j Q S P => ⟨rfl, by
      have := pB S P
      rw [Bool.false_xor] at this
      rw [dec_iff (key i j)]
      exact this⟩⟩
  | true => exact ⟨_, op_ne, kS_ok fun W H0 F ρ δ st σ H i j Q S P => ⟨rfl, by
      have := pB S P
      rw [Bool.true_xor] at this
      rw [dec_iff (key i j)]
      exact this⟩⟩
theorem ok_eqD (n : Bool) : CmpK C (if n then .NotEq else .Eq) (kEqD n) := fun X ok => by
  have hu : X.A.units + 64 < cLine := by have := ok.unH; omega
  have key : ∀ (W : WX) (H0 F : Hp) (ρ : List Addr) (δ : DEnv) (st : Sto) (σ : L2.St) (H Hs Ht : Hp) (x y : Rv) (v u : V) (Q : VK), St0 (xg X) H0 F ρ δ st σ H → RepR (xg X) F ρ δ σ Hs H x v → RepR (xg X) F ρ δ σ Ht H y u → PostE (xg X) W H0 F ρ δ σ H (kEqD n δ x y st) Q →
      ∃ p q, Dp X.K H v p ∧ Dp X.K H u q ∧ SeqAt.shaped p = true ∧ SeqAt.shaped q = true ∧ Q (.bl (xor n (PyData.eqv p q))) H := fun W H0 F ρ δ st σ H Hs Ht x y v u Q S R R' P => by
    unfold kEqD at P
    obtain ⟨d, e1, P⟩ := opt_ok P
    obtain ⟨e, e2, P⟩ := opt_ok P
    have r1 := dat_v S R e1
    have r2 := dat_v S R' e2
    split at P
    · rename_i h
      rw [Bool.and_eq_true] at h
      obtain ⟨h1, h2⟩ := h
      unfold D.shaped at h1 h2
      unfold D.eqv at P
      cases q1 : d.py with
      | none => rw [q1] at h1; cases h1
      | some p =>
        cases q2 : e.py with
        | none => rw [q2] at h2; cases h2
        | some q =>
          rw [q1] at h1 P
          rw [q2] at h2 P
          exact ⟨p, q, py_dp (Same.refl H) r1 q1, py_dp (Same.refl H) r2 q2, h1, h2, pB S P⟩
    · exact P.elim
  cases n with
  | false => exact ⟨_, op_eqD hu, fun W H0 F ρ δ st σ H Hs Ht x y v u Q S R R' P => by
      obtain ⟨p, q, h1, h2, h3, h4, h5⟩ := key W H0 F ρ δ st σ H Hs Ht x y v u Q S R R' P
      rw [Bool.false_xor] at h5
      exact ⟨p, q, h1, h2, h3, h4, h5⟩⟩
  | true => exact ⟨_, op_neD hu, fun W H0 F ρ δ st σ H Hs Ht x y v u Q S R R' P => by
      obtain ⟨p, q, h1, h2, h3, h4, h5⟩ := key W H0 F ρ δ st σ H Hs Ht x y v u Q S R R' P
      rw [Bool.true_xor] at h5
      exact ⟨p, q, h1, h2, h3, h4, h5⟩⟩
theorem ok_eq : CmpK C .Eq (kEq false) := (ok_eqI false).or ((ok_eqS false).or (ok_eqD false))
theorem ok_ne : CmpK C .NotEq (kEq true) := (ok_eqI true).or ((ok_eqS true).or (ok_eqD true))
theorem ok_lt : CmpK C .Lt kLt := CmpK.or (fun X ok => ⟨_, op_lt, kI_ok fun W H0 F ρ δ st σ H i j Q S P => ⟨i, j, rfl, rfl, pB S P⟩⟩) (fun X ok => ⟨_, op_lt_str, kS_ok fun W H0 F ρ δ st σ H i j Q S P => ⟨_, _, rfl, rfl, pB S P⟩⟩)
theorem ok_le : CmpK C .LtE kLe := CmpK.or (fun X ok => ⟨_, op_le, kI_ok fun W H0 F ρ δ st σ H i j Q S P => ⟨i, j, rfl, rfl, pB S P⟩⟩) (fun X ok => ⟨_, op_le_str, kS_ok fun W H0 F ρ δ st σ H i j Q S P => ⟨_, _, rfl, rfl, pB S P⟩⟩)
theorem ok_gt : CmpK C .Gt kGt := CmpK.or (fun X ok => ⟨_, op_gt, kI_ok fun W H0 F ρ δ st σ H i j Q S P => ⟨i, j, rfl, rfl, pB S P⟩⟩) (fun X ok => ⟨_, op_gt_str, kS_ok fun W H0 F ρ δ st σ H i j Q S P => ⟨_, _, rfl, rfl, pB S P⟩⟩)
theorem ok_ge : CmpK C .GtE kGe := CmpK.or (fun X ok => ⟨_, op_ge, kI_ok fun W H0 F ρ δ st σ H i j Q S P => ⟨i, j, rfl, rfl, pB S P⟩⟩) (fun X ok => ⟨_, op_ge_str, kS_ok fun W H0 F ρ δ st σ H i j Q S P => ⟨_, _, rfl, rfl, pB S P⟩⟩)
theorem isNon_v {g : GG} {F : Hp} {ρ : List Addr} {δ : DEnv} {σ : L2.St} {H1 H H0 : Hp} {st : Sto} {r : Rv} {v : V} (S : St0 g H0 F ρ δ st σ H) (R : RepR g F ρ δ σ H1 H r v) : decide (v = .non) = r.isNon := by
  cases r with
  | fz d =>
    cases d with
    | non => cases R; rfl
    | _ => cases R; rfl
  | ow c =>
    obtain ⟨a, rfl, _⟩ := R
    rfl
  | vw i =>
    obtain ⟨h1, c, h2⟩ := R
    obtain ⟨v', h3, a, rfl, _⟩ := S.slot i _ h2
    rw [h1] at h3; cases h3
    rfl
theorem ok_isN (n : Bool) : CmpK C (if n then .IsNot else .Is) (kIsN n) := fun X ok => by
  cases n with
  | false => exact ⟨_, op_isN, fun W H0 F ρ δ st σ H Hs Ht x y v u Q S R R' P => by
      unfold kIsN at P
      split at P
      · rename_i h
        have := isNon_v S R'
        rw [h] at this
        refine ⟨of_decide_eq_true this, ?_⟩
        rw [isNon_v S R]
        have q := pB S P
        rwa [Bool.false_xor] at q
      · exact P.elim⟩
  | true => exact ⟨_, op_notN, fun W H0 F ρ δ st σ H Hs Ht x y v u Q S R R' P => by
      unfold kIsN at P
      split at P
      · rename_i h
        have := isNon_v S R'
        rw [h] at this
        refine ⟨of_decide_eq_true this, ?_⟩
        rw [isNon_v S R]
        have q := pB S P
        rwa [Bool.true_xor] at q
      · exact P.elim⟩
theorem ok_isB (n : Bool) : CmpK C (if n then .IsNot else .Is) (kIsB n) := fun X ok => by
  cases n with
  | false => exact ⟨_, op_isBl, fun W H0 F ρ δ st σ H Hs Ht x y v u Q S R R' P => by
      unfold kIsB at P
      obtain ⟨d, e1, P⟩ := opt_ok P
      obtain ⟨e, e2, P⟩ := opt_ok P
      have q := pB S P
      rw [Bool.false_xor] at q
      exact ⟨d, e, asB_v R e1, asB_v R' e2, q⟩⟩
  | true => exact ⟨_, op_notBl, fun W H0 F ρ δ st σ H Hs Ht x y v u Q S R R' P => by
      unfold kIsB at P
      obtain ⟨d, e1, P⟩ := opt_ok P
      obtain ⟨e, e2, P⟩ := opt_ok P
      have q := pB S P
      rw [Bool.true_xor] at q
      exact ⟨d, e, asB_v R e1, asB_v R' e2, q⟩⟩
theorem ok_is : CmpK C .Is (kIs false) := (ok_isB false).or (ok_isN false)
theorem ok_isnot : CmpK C .IsNot (kIs true) := (ok_isB true).or (ok_isN true)
theorem flat_v {g : GG} {F : Hp} {ρ : List Addr} {d : D} {v : V} (r : Rep g F ρ d v) (h : d.flat = true) : flatV v = true := by
  cases r <;> first | rfl | cases h
theorem eqF_v {g : GG} {F : Hp} {ρ : List Addr} {d e : D} {v u : V} (r : Rep g F ρ d v) (r' : Rep g F ρ e u) (h : d.flat = true) (h' : e.flat = true) : eqV v u = eqF d e := by
  cases r <;> first | (cases h; done) | (cases r' <;> first | (cases h'; done) | rfl | skip)
  rename_i s t
  show ((⟨s.toArray⟩ : Str) == ⟨t.toArray⟩) = decide (s = t)
  rw [← dec_iff (str_inj (s := s) (t := t))]
  exact Bool.beq_eq_decide_eq _ _
theorem inD_v {g : GG} {F : Hp} {ρ : List Addr} {d : D} {v : V} (r : Rep g F ρ d v) (h : d.flat = true) : ∀ {ds : List D} {vs : List V}, Reps g F ρ ds vs → ds.all D.flat = true → vs.all flatV = true ∧ inV v vs = inD d ds
  | _, _, .nil, _ => ⟨rfl, rfl⟩
  | d' :: ds, v' :: vs, .cons r' t, e => by
    rw [List.all_cons, Bool.and_eq_true] at e
    obtain ⟨h1, h2⟩ := inD_v r h t e.2
    refine ⟨by rw [List.all_cons, flat_v r' e.1, h1]; rfl, ?_⟩
    unfold inV inD at h2 ⊢
    rw [List.any_cons, List.any_cons, eqF_v r' r e.1 h, h2]
theorem ok_inQ (n : Bool) : CmpK C (if n then .NotIn else .In) (kInQ n) := fun X ok => by
  have key : ∀ (W : WX) (H0 F : Hp) (ρ : List Addr) (δ : DEnv) (st : Sto) (σ : L2.St) (H Hs Ht : Hp) (x y : Rv) (v u : V) (Q : VK), St0 (xg X) H0 F ρ δ st σ H → RepR (xg X) F ρ δ σ Hs H x v → RepR (xg X) F ρ δ σ Ht H y u → PostE (xg X) W H0 F ρ δ σ H (kInQ n δ x y st) Q →
      rIn X.K n v u H Q := fun W H0 F ρ δ st σ H Hs Ht x y v u Q S R R' P => by
    unfold kInQ at P
    obtain ⟨d, e1, P⟩ := opt_ok P
    obtain ⟨ds, e2, P⟩ := opt_ok P
    have r1 := dat_v S R e1
    obtain ⟨a, vs, rfl, h1, h2⟩ := asQ_v S R' e2
    have h3 : Reps (xg X) H ρ ds vs := h2.mono S.fs ⟨[], by simp⟩
    split at P
    · rename_i h
      rw [Bool.and_eq_true] at h
      obtain ⟨f1, f2⟩ := inD_v r1 h.1 h3 h.2
      refine ⟨a, vs, rfl, h1, flat_v r1 h.1, f1, ?_⟩
      rw [f2]
      have q := pB S P
      cases n with
      | false => rw [Bool.false_xor] at q; exact q
      | true => rw [Bool.true_xor] at q; exact q
    · exact P.elim
  cases n with
  | false => exact ⟨_, op_in_seq, key⟩
  | true => exact ⟨_, op_notIn_seq, key⟩
theorem ok_inS (n : Bool) : CmpK C (if n then .NotIn else .In) (kInS n) := fun X ok => by
  cases n with
  | false => exact ⟨_, op_in_sign, kS_ok fun W H0 F ρ δ st σ H s t Q S P => by
      match s, P with
      | [c], P =>
        have q := pB S P
        rw [Bool.false_xor] at q
        exact ⟨c, _, rfl, rfl, q⟩
      | [], P => exact P.elim
      | _ :: _ :: _, P => exact P.elim⟩
  | true => exact ⟨_, op_notIn_sign, kS_ok fun W H0 F ρ δ st σ H s t Q S P => by
      match s, P with
      | [c], P =>
        have q := pB S P
        rw [Bool.true_xor] at q
        exact ⟨c, _, rfl, rfl, q⟩
      | [], P => exact P.elim
      | _ :: _ :: _, P => exact P.elim⟩
theorem ok_in : CmpK C .In (kIn false) := (ok_inS false).or (ok_inQ false)
theorem ok_notin : CmpK C .NotIn (kIn true) := (ok_inS true).or (ok_inQ true)
end

/-! ### chains -/
def gChain (k k' : K2) (ga gb gc : DEnv → M Rv) : DEnv → M Rv := fun δ => bnd (ga δ) fun x => bnd (gb δ) fun y => bnd (k δ x y) fun z => opt z.asB fun t => if t then bnd (gc δ) fun w => k' δ y w else rbv false
section
variable {C : Ctx} {a b c : Expr} {ga gb gc : DEnv → M Rv} {pos : Pos}
theorem chain_rd {X : Cx} {W : WX} {r r' : R2} {k k' : K2} (hk : OpD X r k) (hk' : OpD X r' k') {σ : L2.St} {H : Hp} {Q : VK} (h : rdE (xg X) W (gChain k k' ga gb gc) σ H Q) : tChain r r' (rdE (xg X) W ga) (rdE (xg X) W gb) (rdE (xg X) W gc) σ H Q := by
  refine rdE_bnd h fun H0 F ρ δ st Hs H v x S R P => ?_
  refine ⟨H0, F, ρ, δ, st, S, PostE_bnd P fun F1 ρ1 st1 H1 u y A1 S1 R1 P1 => ?_⟩
  refine hk W H0 F1 ρ1 δ st1 σ H1 Hs H x y v u _ S1 (R.mono A1) R1 (PostE_bnd P1 fun F2 ρ2 st2 H2 t z A2 S2 R2 P2 => ?_)
  obtain ⟨t', e, P3⟩ := opt_ok P2
  refine ⟨t', asB_v R2 e, ?_⟩
  cases t' with
  | true =>
    simp only [if_true] at P3 ⊢
    refine ⟨H0, F2, ρ2, δ, st2, S2, PostE_bnd P3 fun F3 ρ3 st3 H3 w' z' A3 S3 R3 P4 => ?_⟩
    exact hk' W H0 F3 ρ3 δ st3 σ H3 H H2 y z' u w' Q S3 ((R1.mono A2).mono A3) R3 P4
  | false =>
    simp only [Bool.false_eq_true, if_false] at P3 ⊢
    exact pB S2 P3
theorem de_chain {op op' : CmpOp} {k k' : K2} (ho : CmpK C op k) (ho' : CmpK C op' k') (ha : DE C a ga) (hb : DE C b gb) (hc : DE C c gc) (hm : lastMarks [op, op'] [b, c] = false := by with_unfolding_all rfl) : DE C (.Compare a [op, op'] [b, c] pos) (gChain k k' ga gb gc) := fun X W ok tk => by
  obtain ⟨r, h1, h2⟩ := ho X ok
  obtain ⟨r', h1', h2'⟩ := ho' X ok
  exact peW (pe_chain h1 h1' (ha X W ok tk) (hb X W ok tk) (hc X W ok tk) hm) fun σ H Q h => chain_rd h2 h2' h
/-! ### tests -/
def gTB (ga : DEnv → M Rv) : DEnv → M Bool := fun δ => bnd (ga δ) fun r => opt r.asB fun b => ret b
theorem optT_ok {α : Type} {a : Option α} {f : α → M Bool} {g : GG} {W : WX} {H0 F H : Hp} {ρ : List Addr} {δ : DEnv} {st : Sto} {σ : L2.St} {Q : Bool → Hp → Prop} (P : PostT g W H0 F ρ δ σ H (opt a f st) Q) : ∃ i, a = some i ∧ PostT g W H0 F ρ δ σ H (f i st) Q := by
  cases a with
  | none => exact P.elim
  | some i => exact ⟨i, rfl, P⟩
theorem pT {g : GG} {W : WX} {H0 F H : Hp} {ρ : List Addr} {δ : DEnv} {st : Sto} {σ : L2.St} {b : Bool} {Q : Bool → Hp → Prop} (S : St0 g H0 F ρ δ st σ H) (P : PostT g W H0 F ρ δ σ H (ret b st) Q) : Q b H := P ρ F H .refl S
theorem tb_rd {X : Cx} {W : WX} {σ : L2.St} {H : Hp} {Q : Bool → Hp → Prop} (h : rdT (xg X) W (gTB ga) σ H Q) : rdE (xg X) W ga σ H (fun x H' => ∃ k, x = .bl k ∧ Q k H') := by
  obtain ⟨H0, F, ρ, δ, st, S, P⟩ := h
  refine ⟨H0, F, ρ, δ, st, S, PostE_bndT P fun F' ρ' st' H' v r A S' R' P' => ?_⟩
  obtain ⟨b, e, P2⟩ := optT_ok P'
  exact ⟨b, asB_v R' e, pT S' P2⟩
theorem dt_cmp {op : CmpOp} {k : K2} (ho : CmpK C op k) (ha : DE C a ga) (hb : DE C b gb) (hm : behindInMarks op b = false := by first | exact nomark _ | rfl) : DT C (.Compare a [op] [b] pos) (gTB (gBin k ga gb)) := fun X W ok tk => by
  obtain ⟨r, h1, h2⟩ := ho X ok
  exact ptW (pt_cmpR h1 (ha X W ok tk) (hb X W ok tk) hm) fun σ H Q h => bin_rd h2 (tb_rd h)
theorem dt_chain {op op' : CmpOp} {k k' : K2} (ho : CmpK C op k) (ho' : CmpK C op' k') (ha : DE C a ga) (hb : DE C b gb) (hc : DE C c gc) (hm : lastMarks [op, op'] [b, c] = false := by with_unfolding_all rfl) : DT C (.Compare a [op, op'] [b, c] pos) (gTB (gChain k k' ga gb gc)) := fun X W ok tk => by
  obtain ⟨r, h1, h2⟩ := ho X ok
  obtain ⟨r', h1', h2'⟩ := ho' X ok
  exact ptW (pt_chain h1 h1' (ha X W ok tk) (hb X W ok tk) (hc X W ok tk) hm) fun σ H Q h => chain_rd h2 h2' (tb_rd h)
/-- truth of a value -/
def Rv.tru (δ : DEnv) (st : Sto) (r : Rv) : Option Bool := match r with
  | .fz .non => some false
  | .fz (.bl b) => some b
  | .fz (.int i) => some (i != 0)
  | .fz (.str s) => if s.length ≤ LIM then some (!s.isEmpty) else none
  | r => (r.asQ δ st).map fun ds => !ds.isEmpty
def gTru (ga : DEnv → M Rv) : DEnv → M Bool := fun δ => bnd (ga δ) fun r st => (opt (r.tru δ st) fun b => ret b) st
theorem tru_v {g : GG} {W : WX} {H0 F H H1 : Hp} {ρ : List Addr} {δ : DEnv} {st : Sto} {σ : L2.St} {r : Rv} {v : V} {b : Bool} (S : St0 g H0 F ρ δ st σ H) (R : RepR g F ρ δ σ H1 H r v) (e : r.tru δ st = some b) : TruV g.K v H b := by
  have seq : (r.asQ δ st).map (fun ds => !ds.isEmpty) = some b → TruV g.K v H b := fun e => by
    cases q : r.asQ δ st with
    | none => rw [q] at e; cases e
    | some ds =>
      rw [q] at e; cases e
      obtain ⟨a, vs, rfl, h1, h2⟩ := asQ_v S R q
      have he : (!ds.isEmpty) = !vs.isEmpty := by cases h2 <;> rfl
      show TruV g.K (V.ref a) H (!ds.isEmpty)
      rw [he]
      rcases h1 with h1 | h1
      · exact .inl ⟨vs, h1, rfl⟩
      · exact .inr (.inl ⟨vs, h1, rfl⟩)
  unfold Rv.tru at e
  split at e
  · cases e; cases R; rfl
  · cases e; cases R; rfl
  · cases e; cases R; rfl
  · rename_i s
    split at e
    · rename_i h
      cases e
      rw [Rep.str_v R]
      refine ⟨by rw [len_mk, lim_eq]; exact h, ?_⟩
      rw [len_mk]
      cases s with
      | nil => rfl
      | cons x t =>
        show true = (((t.length + 1 : Nat) : Int) != 0)
        have : ((t.length + 1 : Nat) : Int) ≠ 0 := by omega
        exact (bne_iff_ne.mpr this).symm
    · cases e
  · exact seq e
theorem dt_tru (ha : DE C a ga) (he : ∀ (env : Env) (whole : Sem Value), isTrue a env whole = (do let v ← whole; standAt a.pos; holding [v] (truthy v)) := by intro _ _; rfl) : DT C a (gTru ga) := fun X W ok tk => by
  refine ptW (pt_truth (ha X W ok tk) (he _)) fun σ H Q ⟨H0, F, ρ, δ, st, S, P⟩ => ?_
  refine ⟨H0, F, ρ, δ, st, S, PostE_bndT P fun F' ρ' st' H' v r A S' R' P' => ?_⟩
  obtain ⟨b, e, P2⟩ := optT_ok P'
  exact ⟨b, tru_v (W := W) S' R' e, pT S' P2⟩
/-! and, or, not -/
def gAndT (s t : DEnv → M Bool) : DEnv → M Bool := fun δ => bnd (s δ) fun c => if c then t δ else ret false
def gOrT (s t : DEnv → M Bool) : DEnv → M Bool := fun δ => bnd (s δ) fun c => if c then ret true else t δ
def gNotT (s : DEnv → M Bool) : DEnv → M Bool := fun δ => bnd (s δ) fun c => ret (!c)
variable {s t : DEnv → M Bool} {rest : List Expr}
theorem dw_and1 (ha : DT C a s) : DW C (.BoolOp .And [a] pos) s := fun X W ok tk => pw_and1 (ha X W ok tk)
theorem dw_or1 (ha : DT C a s) : DW C (.BoolOp .Or [a] pos) s := fun X W ok tk => pw_or1 (ha X W ok tk)
theorem dw_and (ha : DT C a s) (hb : DW C (.BoolOp .And (b :: rest) pos) t) : DW C (.BoolOp .And (a :: b :: rest) pos) (gAndT s t) := fun X W ok tk => by
  refine pwW (pw_and (ha X W ok tk) (hb X W ok tk)) fun σ H Q ⟨H0, F, ρ, δ, st, S, P⟩ => ?_
  refine ⟨H0, F, ρ, δ, st, S, PostT_bnd P fun F' ρ' st' H' c A S' P' => ?_⟩
  cases c with
  | true => simp only [if_true] at P' ⊢; exact ⟨H0, F', ρ', δ, st', S', P'⟩
  | false => simp only [Bool.false_eq_true, if_false] at P' ⊢; exact pT S' P'
theorem dw_or (ha : DT C a s) (hb : DW C (.BoolOp .Or (b :: rest) pos) t) : DW C (.BoolOp .Or (a :: b :: rest) pos) (gOrT s t) := fun X W ok tk => by
  refine pwW (pw_or (ha X W ok tk) (hb X W ok tk)) fun σ H Q ⟨H0, F, ρ, δ, st, S, P⟩ => ?_
  refine ⟨H0, F, ρ, δ, st, S, PostT_bnd P fun F' ρ' st' H' c A S' P' => ?_⟩
  cases c with
  | true => simp only [if_true] at P' ⊢; exact pT S' P'
  | false => simp only [Bool.false_eq_true, if_false] at P' ⊢; exact ⟨H0, F', ρ', δ, st', S', P'⟩
theorem dt_w (h : DW C a s) : DT C a s := fun X W ok tk => (h X W ok tk).pt
theorem dt_not (ha : DT C a s) : DT C (.UnaryOp .Not a pos) (gNotT s) := fun X W ok tk => by
  refine ptW (pt_not (ha X W ok tk)) fun σ H Q ⟨H0, F, ρ, δ, st, S, P⟩ => ?_
  exact ⟨H0, F, ρ, δ, st, S, PostT_bnd P fun F' ρ' st' H' c A S' P' => pT S' P'⟩
/-! as values -/
def gAndV (ga gb : DEnv → M Rv) : DEnv → M Rv := fun δ => bnd (ga δ) fun x => opt x.asB fun c => if c then gb δ else rbv false
def gOrV (ga gb : DEnv → M Rv) : DEnv → M Rv := fun δ => bnd (ga δ) fun x => opt x.asB fun c => if c then rbv true else gb δ
def gNotV (ga : DEnv → M Rv) : DEnv → M Rv := fun δ => bnd (ga δ) fun x => opt x.asB fun c => rbv (!c)
def gIf (s : DEnv → M Bool) (ga gb : DEnv → M Rv) : DEnv → M Rv := fun δ => bnd (s δ) fun c => if c then ga δ else gb δ
theorem de_one {op : BoolOp} (h : DE C a ga) : DE C (.BoolOp op [a] pos) ga := fun X W ok tk => pe_one (h X W ok tk)
theorem de_and (ha : DE C a ga) (hb : DE C (.BoolOp .And (b :: rest) pos) gb) : DE C (.BoolOp .And (a :: b :: rest) pos) (gAndV ga gb) := fun X W ok tk => by
  refine peW (pe_and (ha X W ok tk) (hb X W ok tk)) fun σ H Q h => rdE_bnd h fun H0 F ρ δ st Hs H v r S R P => ?_
  obtain ⟨c, e, P'⟩ := opt_ok P
  refine ⟨c, asB_v R e, ?_⟩
  cases c with
  | true => simp only [if_true] at P' ⊢; exact ⟨H0, F, ρ, δ, st, S, P'⟩
  | false => simp only [Bool.false_eq_true, if_false] at P' ⊢; exact pB S P'
theorem de_or (ha : DE C a ga) (hb : DE C (.BoolOp .Or (b :: rest) pos) gb) : DE C (.BoolOp .Or (a :: b :: rest) pos) (gOrV ga gb) := fun X W ok tk => by
  refine peW (pe_or (ha X W ok tk) (hb X W ok tk)) fun σ H Q h => rdE_bnd h fun H0 F ρ δ st Hs H v r S R P => ?_
  obtain ⟨c, e, P'⟩ := opt_ok P
  refine ⟨c, asB_v R e, ?_⟩
  cases c with
  | true => simp only [if_true] at P' ⊢; exact pB S P'
  | false => simp only [Bool.false_eq_true, if_false] at P' ⊢; exact ⟨H0, F, ρ, δ, st, S, P'⟩
theorem de_not (ha : DE C a ga) : DE C (.UnaryOp .Not a pos) (gNotV ga) := fun X W ok tk => by
  refine peW (pe_not (ha X W ok tk)) fun σ H Q h => rdE_bnd h fun H0 F ρ δ st Hs H v r S R P => ?_
  obtain ⟨c, e, P'⟩ := opt_ok P
  exact ⟨c, asB_v R e, pB S P'⟩
theorem de_if (hc : DT C c s) (ha : DE C a ga) (hb : DE C b gb) : DE C (.IfExp c a b pos) (gIf s ga gb) := fun X W ok tk => by
  refine peW (pe_ifExp (hc X W ok tk) (ha X W ok tk) (hb X W ok tk)) fun σ H Q ⟨H0, F, ρ, δ, st, S, P⟩ => ?_
  refine ⟨H0, F, ρ, δ, st, S, PostT_bndE P fun F' ρ' st' H' t A S' P' => ?_⟩
  cases t with
  | true => simp only [if_true] at P' ⊢; exact ⟨H0, F', ρ', δ, st', S', P'⟩
  | false => simp only [Bool.false_eq_true, if_false] at P' ⊢; exact ⟨H0, F', ρ', δ, st', S', P'⟩
def kNeg : K1 := fun _ x => opt x.asI fun i => riv (-i)
theorem de_neg (ha : DE C a ga) : DE C (.UnaryOp .USub a pos) (gUn kNeg ga) := fun X W ok tk => by
  refine peW (pe_un un_neg (ha X W ok tk)) fun σ H Q h => rdE_bnd h fun H0 F ρ δ st Hs H v r S R P => ?_
  obtain ⟨i, e, P'⟩ := opt_ok P
  exact ⟨i, asI_v R e, pI S P'⟩
end
end DL

/-! DL5: subscripts, slices, calls. -/
namespace DL
open PySem PySem.Spec PyProof.Rows L2 TL
set_option autoImplicit false

/-! ### subscripts -/
def kIxS : K2 := fun _ x y => opt x.asS fun s => opt y.asI fun i => if s.length ≤ LIM then opt (atI s i) fun c => rsv [c] else fail
def kIxQ : K2 := fun δ x y st => (opt (x.asQ δ st) fun ds => opt y.asI fun i => opt (atI ds i) fun d => ret (.fz d)) st
def kIx : K2 := fun δ x y => if x.asS.isSome then kIxS δ x y else kIxQ δ x y
section
variable {g : GG} {F : Hp} {ρ : List Addr}
theorem atI_reps {ds : List D} {vs : List V} {i : Int} {d : D} (r : Reps g F ρ ds vs) (e : atI ds i = some d) : ∃ v, atI vs i = some v ∧ Rep g F ρ d v := by
  unfold atI at e ⊢
  rw [← r.length]
  cases q : ixN ds.length i with
  | none => rw [q] at e; cases e
  | some j =>
    rw [q] at e
    exact r.get e
end
section
variable {C : Ctx} {a b : Expr} {ga gb : DEnv → M Rv} {pos : Pos}
theorem ix_ok (X : Cx) : OpD X (rIx X.K) kIx := fun W H0 F ρ δ st σ H Hs Ht x y v u Q S R R' P => by
  unfold kIx at P
  split at P
  · unfold kIxS at P
    obtain ⟨s, e1, P⟩ := opt_ok P
    obtain ⟨i, e2, P⟩ := opt_ok P
    split at P
    · rename_i hl
      obtain ⟨c, e3, P⟩ := opt_ok P
      refine .inr (.inr ⟨_, i, c, asS_v R e1, asI_v R' e2, by rw [len_mk, lim_eq]; exact hl, e3, ?_⟩)
      exact pS S P
    · exact P.elim
  · unfold kIxQ at P
    obtain ⟨ds, e1, P⟩ := opt_ok P
    obtain ⟨i, e2, P⟩ := opt_ok P
    obtain ⟨d, e3, P⟩ := opt_ok P
    obtain ⟨p, vs, rfl, h1, h2⟩ := asQ_v S R e1
    obtain ⟨w', h3, h4⟩ := atI_reps h2 e3
    rcases h1 with h1 | h1
    · exact .inl ⟨p, vs, i, w', rfl, asI_v R' e2, h1, h3, PostE.done0 P S h4⟩
    · exact .inr (.inl ⟨p, vs, i, w', rfl, asI_v R' e2, h1, h3, PostE.done0 P S h4⟩)
/-- an index that is no slice -/
def noSlice : Expr → Bool
  | .Slice .. => false
  | _ => true
theorem plainIx {b : Expr} (h : noSlice b = true) : PlainIx b := by
  cases b <;> first | (intro _ _; rfl) | cases h
theorem de_ix (ha : DE C a ga) (hb : DE C b gb) (hn : noSlice b = true := by rfl) : DE C (.Subscript a b pos) (gBin kIx ga gb) := fun X W ok tk =>
  peW (pe_ix ix_seq (ha X W ok tk) (hb X W ok tk) (plainIx hn)) fun σ H Q h => bin_rd (ix_ok X) h
end

/-! ### slices -/
def cutQ {α : Type} (xs : List α) (lo hi : Option Int) : List α := (xs.drop (HT.sIx xs.length 0 lo)).take (HT.sIx xs.length xs.length hi - HT.sIx xs.length 0 lo)
theorem cut_reps {g : GG} {F : Hp} {ρ : List Addr} {ds : List D} {vs : List V} (r : Reps g F ρ ds vs) (lo hi : Option Int) : Reps g F ρ (cutQ ds lo hi) (cutV vs lo hi) := by
  unfold cutQ cutV
  rw [r.length]
  exact (r.drop _).take _
/-- the parts of a slice -/
def PostO (g : GG) (W : WX) (H0 F : Hp) (ρ : List Addr) (δ : DEnv) (σ : L2.St) (H : Hp) (o : Option (Res (Option Int) × Sto)) (Q : Option Int → Hp → Prop) : Prop := match o with
  | none => False
  | some (.ok b, st') => ∀ ρ' F' H', After ρ F H ρ' F' H' → St0 g H0 F' ρ' δ st' σ H' → Q b H'
  | some (.ex x, st') => ∀ c d ρ' F' H', After ρ F H ρ' F' H' → St0 g H0 F' ρ' δ st' σ H' → RepX g F' ρ' H' x c d → W c d σ H'
def rdO (g : GG) (W : WX) (ge : DEnv → M (Option Int)) : TO := fun σ H Q => ∃ H0 F ρ δ st, St0 g H0 F ρ δ st σ H ∧ PostO g W H0 F ρ δ σ H (ge δ st) Q
def DO (C : Ctx) (e : Option Expr) (ge : DEnv → M (Option Int)) : Prop := ∀ X W, CtxOk C X → Takes X W → PO X e (rdO (xg X) W ge)
section
variable {g : GG} {W : WX} {H0 F F' H H' H1 : Hp} {ρ ρ' : List Addr} {δ : DEnv} {σ : L2.St} {st st' : Sto} {Q : VK}
theorem PostO.later {Q : Option Int → Hp → Prop} {o : Option (Res (Option Int) × Sto)} (h : PostO g W H0 F ρ δ σ H o Q) (A : After ρ F H ρ' F' H') : PostO g W H0 F' ρ' δ σ H' o Q := by
  match o, h with
  | some (.ok r, st'), h => exact fun ρ2 F2 H2 A2 S2 => h ρ2 F2 H2 (A.trans A2) S2
  | some (.ex x, st'), h => exact fun c d ρ2 F2 H2 A2 S2 R2 => h c d ρ2 F2 H2 (A.trans A2) S2 R2
theorem PostE_bndO {ma : M Rv} {k : Rv → M (Option Int)} {R : V → Hp → Prop} {Q : Option Int → Hp → Prop} (h : PostO g W H0 F ρ δ σ H (bnd ma k st) Q)
    (hk : ∀ F' ρ' st' H' v r, After ρ F H ρ' F' H' → St0 g H0 F' ρ' δ st' σ H' → RepR g F' ρ' δ σ H H' r v → PostO g W H0 F' ρ' δ σ H' (k r st') Q → R v H') : PostE g W H0 F ρ δ σ H (ma st) R := by
  unfold bnd at h
  match e : ma st, h with
  | none, h => exact h
  | some (.ok r, st'), h => exact fun v ρ' F' H' A S' R' => hk F' ρ' st' H' v r A S' R' (h.later A)
  | some (.ex x, st'), h => exact h
theorem PostO_bndE {ma : M (Option Int)} {k : Option Int → M Rv} {R : Option Int → Hp → Prop} {Q : VK} (h : PostE g W H0 F ρ δ σ H (bnd ma k st) Q)
    (hk : ∀ F' ρ' st' H' b, After ρ F H ρ' F' H' → St0 g H0 F' ρ' δ st' σ H' → PostE g W H0 F' ρ' δ σ H' (k b st') Q → R b H') : PostO g W H0 F ρ δ σ H (ma st) R := by
  unfold bnd at h
  match e : ma st, h with
  | none, h => exact h
  | some (.ok r, st'), h => exact fun ρ' F' H' A S' => hk F' ρ' st' H' r A S' (h.later A)
  | some (.ex x, st'), h => exact h
end
def gONone : DEnv → M (Option Int) := fun _ => ret none
def gOSome (ga : DEnv → M Rv) : DEnv → M (Option Int) := fun δ => bnd (ga δ) fun r => opt r.asI fun i => ret (some i)
abbrev K3 := DEnv → Rv → Option Int → Option Int → M Rv
def gSlice (ga : DEnv → M Rv) (gl gh : DEnv → M (Option Int)) (k : K3) : DEnv → M Rv := fun δ => bnd (ga δ) fun x => bnd (gl δ) fun lo => bnd (gh δ) fun hi => k δ x lo hi
def kSlS : K3 := fun _ x lo hi => opt x.asS fun s => if s.length ≤ LIM then rsv (cutQ s lo hi) else fail
def kSlT : K3 := fun _ x lo hi => opt x.asT fun s => ret (.fz (.tup (cutQ s lo hi)))
/-- a list, also one that is only read -/
def Rv.asR (δ : DEnv) (st : Sto) (r : Rv) : Option (List D) := match r with
  | .fz (.rol ds) => some ds
  | r => r.asL δ st
theorem asR_v {g : GG} {H0 F H H1 : Hp} {ρ : List Addr} {δ : DEnv} {σ : L2.St} {st : Sto} {r : Rv} {v : V} {ds : List D} (S : St0 g H0 F ρ δ st σ H) (R : RepR g F ρ δ σ H1 H r v) (e : r.asR δ st = some ds) : ∃ a vs, v = .ref a ∧ SqL g.K H a vs ∧ Reps g F ρ ds vs := by
  unfold Rv.asR at e
  split at e
  · cases e
    cases R with
    | rol h1 h2 => exact ⟨_, _, rfl, Same.seq S.fs h1, h2⟩
  · obtain ⟨a, vs, h1, h2, h3⟩ := asL_v S R e
    exact ⟨a, vs, h1, .of h2, h3⟩
def kSlL : K3 := fun δ x lo hi st => (opt (x.asR δ st) fun s => ret (.ow (.lst (cutQ s lo hi)))) st
def kSl : K3 := fun δ x lo hi => if x.asS.isSome then kSlS δ x lo hi else if x.asT.isSome then kSlT δ x lo hi else kSlL δ x lo hi
section
variable {C : Ctx} {a b : Expr} {ga gb : DEnv → M Rv} {gl gh : DEnv → M (Option Int)} {pos p2 : Pos} {lo hi : Option Expr}
theorem do_none : DO C none gONone := fun X W ok tk => ⟨fun pins s σ H Q I h => by
  obtain ⟨H0, F, ρ, δ, st, S, P⟩ := h
  exact (po_none (X := X)).run pins s σ H Q I (P ρ F H .refl S)⟩
theorem do_some (h : DE C a ga) : DO C (some a) (gOSome ga) := fun X W ok tk => ⟨fun pins s σ H Q I hh => by
  refine (po_some (h X W ok tk)).run pins s σ H Q I ?_
  obtain ⟨H0, F, ρ, δ, st, S, P⟩ := hh
  refine ⟨H0, F, ρ, δ, st, S, PostE_bndO P fun F' ρ' st' H' v r A S' R' P' => ?_⟩
  cases e : r.asI with
  | none => rw [e] at P'; exact P'.elim
  | some i =>
    rw [e] at P'
    exact ⟨i, asI_v R' e, P' ρ' F' H' .refl S'⟩⟩
theorem cut_full {α : Type} {xs : List α} {lo hi : Option Int} (h : HT.sIx xs.length 0 lo = 0 ∧ HT.sIx xs.length xs.length hi = xs.length) : cutQ xs lo hi = xs := by
  unfold cutQ
  rw [h.1, h.2]
  simp
theorem sl_ok (X : Cx) {W : WX} {H0 F H Hs : Hp} {ρ : List Addr} {δ : DEnv} {st : Sto} {σ : L2.St} {x : Rv} {v : V} {lo hi : Option Int} {Q : VK} (S : St0 (xg X) H0 F ρ δ st σ H) (R : RepR (xg X) F ρ δ σ Hs H x v) (P : PostE (xg X) W H0 F ρ δ σ H (kSl δ x lo hi st) Q) :
    rSlL X.K v lo hi H Q ∨ rSlA X.K v lo hi H Q ∨ rSlS v lo hi H Q := by
  unfold kSl at P
  split at P
  · unfold kSlS at P
    obtain ⟨s, e1, P⟩ := opt_ok P
    split at P
    · rename_i hl
      refine .inr (.inr ⟨_, asS_v R e1, by rw [len_mk, lim_eq]; exact hl, ?_⟩)
      have := pS S P
      unfold cutS
      rw [len_mk]
      exact this
    · exact P.elim
  · split at P
    · unfold kSlT at P
      obtain ⟨s, e1, P⟩ := opt_ok P
      obtain ⟨p, vs, rfl, h1, f1, h2⟩ := asT_v S R e1
      refine .inr (.inl ⟨p, vs, rfl, h1, fun hw => ?_, fun _ q nq => new_tup P S (cut_reps h2 lo hi) q nq⟩)
      rw [← h2.length] at hw
      rw [cut_full hw] at P
      exact PostE.done0 P S (.tup f1 h2)
    · unfold kSlL at P
      obtain ⟨s, e1, P⟩ := opt_ok P
      obtain ⟨p, vs, rfl, h1, h2⟩ := asR_v S R e1
      exact .inl ⟨p, vs, rfl, h1, fun q nq => new_own P S (cut_reps h2 lo hi) q nq⟩
theorem de_slice (ha : DE C a ga) (hl : DO C lo gl) (hh : DO C hi gh) : DE C (.Subscript a (.Slice lo hi none p2) pos) (gSlice ga gl gh kSl) := fun X W ok tk => by
  refine peW (pe_slice (sl_list.or (sl_tupA.or sl_str)) (ha X W ok tk) (hl X W ok tk) (hh X W ok tk)) fun σ H Q h => rdE_bnd h fun H0 F ρ δ st Hs H v r S R P => ?_
  refine ⟨H0, F, ρ, δ, st, S, PostO_bndE P fun F1 ρ1 st1 H1 l A1 S1 P1 => ?_⟩
  refine ⟨H0, F1, ρ1, δ, st1, S1, PostO_bndE P1 fun F2 ρ2 st2 H2 u A2 S2 P2 => ?_⟩
  exact sl_ok X S2 ((R.mono A1).mono A2) P2
end

/-! ### built-in functions -/
/-- a built-in function of values that are frozen or viewed -/
abbrev KN := DEnv → List Rv → M Rv
def FnK (C : Ctx) (f : Value) (k : KN) : Prop := ∀ X, CtxOk C X → ∃ r, CallR X f r ∧ ∀ W H0 F ρ δ st σ H Hs rs vs Q, St0 (xg X) H0 F ρ δ st σ H → RepRs (xg X) F ρ δ σ Hs H rs vs → PostE (xg X) W H0 F ρ δ σ H (k δ rs st) Q → r vs H Q
def gFn (k : KN) (gs : DEnv → M (List Rv)) : DEnv → M Rv := fun δ => bnd (gs δ) fun rs => k δ rs
theorem FnK.or {C : Ctx} {f : Value} {k k' : KN} {p : DEnv → List Rv → Bool} (h : FnK C f k) (h' : FnK C f k') : FnK C f (fun δ rs => if p δ rs then k δ rs else k' δ rs) := fun X ok => by
  obtain ⟨r, h1, h2⟩ := h X ok
  obtain ⟨r', h1', h2'⟩ := h' X ok
  refine ⟨_, h1.or h1', fun W H0 F ρ δ st σ H Hs rs vs Q S R P => ?_⟩
  dsimp only at P
  split at P
  · exact .inl (h2 W H0 F ρ δ st σ H Hs rs vs Q S R P)
  · exact .inr (h2' W H0 F ρ δ st σ H Hs rs vs Q S R P)
/-- a global name of the def -/
def Glo (C : Ctx) (x : Str) : Prop := C.sc.names.lookup x = some .globalImplicit
theorem CtxOk.glo {C : Ctx} {X : Cx} (ok : CtxOk C X) {x : Str} (h : Glo C x) : Gl X x := by
  unfold Gl Env.kindOf
  rw [ok.sc]
  exact h
theorem star_none {e : Expr} {es : List Expr} {env : Env} {pos : Pos} (h : es.all noStar = true) : (backTo pos (starEach es env)).any (·.1) = false := by
  induction es with
  | nil => rfl
  | cons e es ih =>
    rw [List.all_cons, Bool.and_eq_true] at h
    rw [star_eq h.1]
    show (false || (backTo pos (starEach es env)).any (·.1)) = false
    rw [ih h.2]
    rfl
section
variable {C : Ctx} {e : Expr} {es : List Expr} {gs : DEnv → M (List Rv)} {x : Str} {p pos : Pos} {k : KN}
theorem fn_rd {X : Cx} {W : WX} {r : List V → Hp → VK → Prop} (hk : ∀ W H0 F ρ δ st σ H Hs rs vs Q, St0 (xg X) H0 F ρ δ st σ H → RepRs (xg X) F ρ δ σ Hs H rs vs → PostE (xg X) W H0 F ρ δ σ H (k δ rs st) Q → r vs H Q) {σ : L2.St} {H : Hp} {Q : VK} (h : rdE (xg X) W (gFn k gs) σ H Q) :
    tCB r (rdA (xg X) W gs) σ H Q := by
  obtain ⟨H0, F, ρ, δ, st, S, P⟩ := h
  exact ⟨H0, F, ρ, δ, st, S, PostA_bndE P fun F' ρ' st' H' vs rs A S' R' P' => hk W H0 F' ρ' δ st' σ H' H rs vs Q S' R' P'⟩
theorem de_fn {id : String} (hf : FnK C (.builtin id) k) (hg : Glo C x) (hm : C.mg x = none) (hv : bootBuiltins x = some (.builtin id)) (ha : DA C (e :: es) gs) (hn : x ≠ "__name__" := by decide) (hdb : (x == ("__debug__" : Str)) = false := by decide)
    (hs : noStar e = true := by rfl) (hss : es.all noStar = true := by rfl) : DE C (.Call (.Name x p) (e :: es) [] pos) (gFn k gs) := fun X W ok tk => by
  obtain ⟨r, h1, h2⟩ := hf X ok
  exact peW (pe_callB h1 (ok.glo hg) (by rw [ok.mg]; exact hm) hv (ha X W ok tk) hn hdb (star_eq hs) (star_none (e := e) hss)) fun σ H Q h => fn_rd h2 h
theorem de_fnT {T : String} (hf : FnK C (.type T) k) (hg : Glo C x) (hm : C.mg x = none) (hv : bootBuiltins x = some (.type T)) (ha : DA C (e :: es) gs) (hn : x ≠ "__name__" := by decide) (hdb : (x == ("__debug__" : Str)) = false := by decide)
    (hs : noStar e = true := by rfl) (hss : es.all noStar = true := by rfl) : DE C (.Call (.Name x p) (e :: es) [] pos) (gFn k gs) := fun X W ok tk => by
  obtain ⟨r, h1, h2⟩ := hf X ok
  exact peW (pe_callTy h1 (ok.glo hg) (by rw [ok.mg]; exact hm) hv (ha X W ok tk) hn hdb (star_eq hs) (star_none (e := e) hss)) fun σ H Q h => fn_rd h2 h
/-- a built-in class as a value -/
theorem de_ty {T : String} (hg : Glo C x) (hm : C.mg x = none) (hv : bootBuiltins x = some (.type T)) (hn : x ≠ "__name__" := by decide) (hdb : (x == ("__debug__" : Str)) = false := by decide) : DE C (.Name x pos) (gC (.ty T)) := fun X W ok tk =>
  peW (pe_bltn (v := .ty T) (ok.glo hg) (by rw [ok.mg]; exact hm) hv rfl hn hdb) fun σ H Q ⟨H0, F, ρ, δ, st, S, h⟩ => PostE.done0 h S .ty
end
theorem RepRs.one {g : GG} {F : Hp} {ρ : List Addr} {δ : DEnv} {σ : L2.St} {H1 H : Hp} {r : Rv} {vs : List V} (R : RepRs g F ρ δ σ H1 H [r] vs) : ∃ v, vs = [v] ∧ RepR g F ρ δ σ H1 H r v := by
  cases R with
  | cons h t => cases t; exact ⟨_, rfl, h⟩
theorem RepRs.two {g : GG} {F : Hp} {ρ : List Addr} {δ : DEnv} {σ : L2.St} {H1 H : Hp} {r r' : Rv} {vs : List V} (R : RepRs g F ρ δ σ H1 H [r, r'] vs) : ∃ v v', vs = [v, v'] ∧ RepR g F ρ δ σ H1 H r v ∧ RepR g F ρ δ σ H1 H r' v' := by
  cases R with
  | cons h t => cases t with
    | cons h' t' => cases t'; exact ⟨_, _, rfl, h, h'⟩
/-- one argument -/
def k1 (f : DEnv → Rv → M Rv) : KN := fun δ rs => match rs with
  | [r] => f δ r
  | _ => fail
def k2 (f : DEnv → Rv → Rv → M Rv) : KN := fun δ rs => match rs with
  | [r, r'] => f δ r r'
  | _ => fail
section
variable {C : Ctx}
theorem fnK1 {f : Value} {h : DEnv → Rv → M Rv} (hh : ∀ X, CtxOk C X → ∃ r, CallR X f r ∧ ∀ W H0 F ρ δ st σ H Hs x v Q, St0 (xg X) H0 F ρ δ st σ H → RepR (xg X) F ρ δ σ Hs H x v → PostE (xg X) W H0 F ρ δ σ H (h δ x st) Q → r [v] H Q) : FnK C f (k1 h) := fun X ok => by
  obtain ⟨r, h1, h2⟩ := hh X ok
  refine ⟨r, h1, fun W H0 F ρ δ st σ H Hs rs vs Q S R P => ?_⟩
  match rs, R, P with
  | [x], R, P =>
    obtain ⟨v, rfl, R1⟩ := R.one
    exact h2 W H0 F ρ δ st σ H Hs x v Q S R1 P
  | [], _, P => exact P.elim
  | _ :: _ :: _, _, P => exact P.elim
theorem fnK2 {f : Value} {h : DEnv → Rv → Rv → M Rv} (hh : ∀ X, CtxOk C X → ∃ r, CallR X f r ∧ ∀ W H0 F ρ δ st σ H Hs x y v u Q, St0 (xg X) H0 F ρ δ st σ H → RepR (xg X) F ρ δ σ Hs H x v → RepR (xg X) F ρ δ σ Hs H y u → PostE (xg X) W H0 F ρ δ σ H (h δ x y st) Q → r [v, u] H Q) : FnK C f (k2 h) := fun X ok => by
  obtain ⟨r, h1, h2⟩ := hh X ok
  refine ⟨r, h1, fun W H0 F ρ δ st σ H Hs rs vs Q S R P => ?_⟩
  match rs, R, P with
  | [x, y], R, P =>
    obtain ⟨v, u, rfl, R1, R2⟩ := R.two
    exact h2 W H0 F ρ δ st σ H Hs x y v u Q S R1 R2 P
  | [], _, P => exact P.elim
  | [_], _, P => exact P.elim
  | _ :: _ :: _ :: _, _, P => exact P.elim
/-- len -/
def kLen : KN := k1 fun δ x st => (if x.asS.isSome then opt x.asS fun s => (if s.length ≤ LIM then riv s.length else fail) else opt (x.asQ δ st) fun ds => riv ds.length) st
theorem ok_len : FnK C (.builtin "len") kLen := fnK1 fun X ok => ⟨_, call_len, fun W H0 F ρ δ st σ H Hs x v Q S R P => by
  split at P
  · obtain ⟨s, e1, P⟩ := opt_ok P
    split at P
    · rename_i hl
      rw [asS_v R e1]
      exact ⟨_, s.length, rfl, ⟨by rw [len_mk, lim_eq]; exact hl, (len_mk s).symm⟩, pI S P⟩
    · exact P.elim
  · obtain ⟨ds, e1, P⟩ := opt_ok P
    obtain ⟨p, vs, rfl, h1, h2⟩ := asQ_v S R e1
    refine ⟨_, ds.length, rfl, ?_, pI S P⟩
    rw [h2.length]
    rcases h1 with h1 | h1
    · exact .inl ⟨vs, h1, rfl⟩
    · exact .inr ⟨vs, h1, rfl⟩⟩
/-- list(list or tuple) -/
def kList : KN := k1 fun δ x st => (opt (x.asQ δ st) fun ds => ret (.ow (.lst ds))) st
theorem ok_list : FnK C (.type "list") kList := fnK1 fun X ok => ⟨_, call_list_of, fun W H0 F ρ δ st σ H Hs x v Q S R P => by
  obtain ⟨ds, e1, P⟩ := opt_ok P
  obtain ⟨p, vs, rfl, h1, h2⟩ := asQ_v S R e1
  exact ⟨p, vs, rfl, h1, fun q nq => new_own P S h2 q nq⟩⟩
/-- tuple(list or tuple) -/
def kTuple : KN := k1 fun δ x st => (if x.asT.isSome then opt x.asT fun ds => ret (.fz (.tup ds)) else opt (x.asR δ st) fun ds => ret (.fz (.tup ds))) st
theorem ok_tuple : FnK C (.type "tuple") kTuple := fnK1 fun X ok => ⟨_, call_tuple_of, fun W H0 F ρ δ st σ H Hs x v Q S R P => by
  split at P
  · obtain ⟨ds, e1, P⟩ := opt_ok P
    obtain ⟨p, vs, rfl, h1, f1, h2⟩ := asT_v S R e1
    exact ⟨p, vs, rfl, .inr ⟨h1, PostE.done0 P S (.tup f1 h2)⟩⟩
  · obtain ⟨ds, e1, P⟩ := opt_ok P
    obtain ⟨p, vs, rfl, h1, h2⟩ := asR_v S R e1
    exact ⟨p, vs, rfl, .inl ⟨h1, fun q nq => new_tup P S h2 q nq⟩⟩⟩
/-- lists of one kind -/
def ints? : List D → Option (List Int)
  | [] => some []
  | .int i :: ds => (ints? ds).map (i :: ·)
  | _ => none
def bls? : List D → Option (List Bool)
  | [] => some []
  | .bl i :: ds => (bls? ds).map (i :: ·)
  | _ => none
def strs? : List D → Option (List (List Nat))
  | [] => some []
  | .str i :: ds => (strs? ds).map (i :: ·)
  | _ => none
theorem ints_eq : ∀ {ds : List D} {ns : List Int}, ints? ds = some ns → ds = ns.map D.int
  | [], _, e => by cases e; rfl
  | .int i :: ds, ns, e => by
    unfold ints? at e
    cases q : ints? ds with
    | none => rw [q] at e; cases e
    | some ms => rw [q] at e; cases e; rw [ints_eq q]; rfl
  | .non :: _, _, e => by cases e
  | .bl _ :: _, _, e => by cases e
  | .str _ :: _, _, e => by cases e
  | .tup _ :: _, _, e => by cases e
  | .lst _ :: _, _, e => by cases e
  | .rol _ :: _, _, e => by cases e
  | .obj _ _ :: _, _, e => by cases e
  | .dk _ :: _, _, e => by cases e
  | .dt _ :: _, _, e => by cases e
  | .loc _ :: _, _, e => by cases e
  | .ty _ :: _, _, e => by cases e
  | .exc _ _ :: _, _, e => by cases e
  | .tab _ _ :: _, _, e => by cases e
theorem bls_eq : ∀ {ds : List D} {ns : List Bool}, bls? ds = some ns → ds = ns.map D.bl
  | [], _, e => by cases e; rfl
  | .bl i :: ds, ns, e => by
    unfold bls? at e
    cases q : bls? ds with
    | none => rw [q] at e; cases e
    | some ms => rw [q] at e; cases e; rw [bls_eq q]; rfl
  | .non :: _, _, e => by cases e
  | .int _ :: _, _, e => by cases e
  | .str _ :: _, _, e => by cases e
  | .tup _ :: _, _, e => by cases e
  | .lst _ :: _, _, e => by cases e
  | .rol _ :: _, _, e => by cases e
  | .obj _ _ :: _, _, e => by cases e
  | .dk _ :: _, _, e => by cases e
  | .dt _ :: _, _, e => by cases e
  | .loc _ :: _, _, e => by cases e
  | .ty _ :: _, _, e => by cases e
  | .exc _ _ :: _, _, e => by cases e
  | .tab _ _ :: _, _, e => by cases e
theorem strs_eq : ∀ {ds : List D} {ns : List (List Nat)}, strs? ds = some ns → ds = ns.map D.str
  | [], _, e => by cases e; rfl
  | .str i :: ds, ns, e => by
    unfold strs? at e
    cases q : strs? ds with
    | none => rw [q] at e; cases e
    | some ms => rw [q] at e; cases e; rw [strs_eq q]; rfl
  | .non :: _, _, e => by cases e
  | .int _ :: _, _, e => by cases e
  | .bl _ :: _, _, e => by cases e
  | .tup _ :: _, _, e => by cases e
  | .lst _ :: _, _, e => by cases e
  | .rol _ :: _, _, e => by cases e
  | .obj _ _ :: _, _, e => by cases e
  | .dk _ :: _, _, e => by cases e
  | .dt _ :: _, _, e => by cases e
  | .loc _ :: _, _, e => by cases e
  | .ty _ :: _, _, e => by cases e
  | .exc _ _ :: _, _, e => by cases e
  | .tab _ _ :: _, _, e => by cases e
theorem ints_map : ∀ ns : List Int, ints? (ns.map D.int) = some ns
  | [] => rfl
  | n :: ns => by
    show (ints? (ns.map D.int)).map (n :: ·) = _
    rw [ints_map ns] <;> rfl
theorem bls_map : ∀ ns : List Bool, bls? (ns.map D.bl) = some ns
  | [] => rfl
  | n :: ns => by
    show (bls? (ns.map D.bl)).map (n :: ·) = _
    rw [bls_map ns] <;> rfl
theorem strs_map : ∀ ns : List (List Nat), strs? (ns.map D.str) = some ns
  | [] => rfl
  | n :: ns => by
    show (strs? (ns.map D.str)).map (n :: ·) = _
    rw [strs_map ns] <;> rfl
/-- all, any of a list of bools; sum of ints -/
def kAll : KN := k1 fun δ x st => (opt (x.asR δ st) fun ds => opt (bls? ds) fun bs => rbv (bs.all id)) st
def kAny : KN := k1 fun δ x st => (opt (x.asR δ st) fun ds => opt (bls? ds) fun bs => rbv (bs.any id)) st
def kSum : KN := k1 fun δ x st => (opt (x.asR δ st) fun ds => opt (ints? ds) fun bs => riv bs.sum) st
theorem ok_all (hh : C.hot = false := by rfl) : FnK C (.builtin "all") kAll := fnK1 fun X ok => ⟨_, cr_all (ok.calm hh), fun W H0 F ρ δ st σ H Hs x v Q S R P => by
  obtain ⟨ds, e1, P⟩ := opt_ok P
  obtain ⟨bs, e2, P⟩ := opt_ok P
  obtain ⟨p, vs, rfl, h1, h2⟩ := asR_v S R e1
  rw [bls_eq e2] at h2
  rw [Reps.bls h2] at h1
  exact ⟨p, bs, rfl, h1, pB S P⟩⟩
theorem ok_any (hh : C.hot = false := by rfl) : FnK C (.builtin "any") kAny := fnK1 fun X ok => ⟨_, cr_any (ok.calm hh), fun W H0 F ρ δ st σ H Hs x v Q S R P => by
  obtain ⟨ds, e1, P⟩ := opt_ok P
  obtain ⟨bs, e2, P⟩ := opt_ok P
  obtain ⟨p, vs, rfl, h1, h2⟩ := asR_v S R e1
  rw [bls_eq e2] at h2
  rw [Reps.bls h2] at h1
  exact ⟨p, bs, rfl, h1, pB S P⟩⟩
theorem ok_sum (hh : C.hot = false := by rfl) : FnK C (.builtin "sum") kSum := fnK1 fun X ok => ⟨_, cr_sum (ok.calm hh), fun W H0 F ρ δ st σ H Hs x v Q S R P => by
  obtain ⟨ds, e1, P⟩ := opt_ok P
  obtain ⟨bs, e2, P⟩ := opt_ok P
  obtain ⟨p, vs, rfl, h1, h2⟩ := asR_v S R e1
  rw [ints_eq e2] at h2
  rw [Reps.ints h2] at h1
  exact ⟨p, bs, rfl, h1, pI S P⟩⟩
/-- int of a bool or int; str of an int; abs; ord -/
def kInt : KN := k1 fun _ x => if x.asB.isSome then opt x.asB fun b => riv (if b then 1 else 0) else opt x.asI fun i => riv i
theorem ok_int : FnK C (.type "int") kInt := fnK1 fun X ok => ⟨_, call_int1, fun W H0 F ρ δ st σ H Hs x v Q S R P => by
  split at P
  · obtain ⟨b, e1, P⟩ := opt_ok P
    exact .inr ⟨b, by rw [asB_v R e1], pI S P⟩
  · obtain ⟨b, e1, P⟩ := opt_ok P
    exact .inl ⟨b, by rw [asI_v R e1], pI S P⟩⟩
def kAbs : KN := k1 fun _ x => opt x.asI fun i => riv (if i < 0 then -i else i)
theorem ok_abs : FnK C (.builtin "abs") kAbs := fnK1 fun X ok => ⟨_, call_abs, fun W H0 F ρ δ st σ H Hs x v Q S R P => by
  obtain ⟨b, e1, P⟩ := opt_ok P
  exact ⟨b, by rw [asI_v R e1], pI S P⟩⟩
def kOrd : KN := k1 fun _ x => opt x.asS fun s => match s with
  | [c] => riv (c : Nat)
  | _ => fail
theorem ok_ord : FnK C (.builtin "ord") kOrd := fnK1 fun X ok => ⟨_, call_ord, fun W H0 F ρ δ st σ H Hs x v Q S R P => by
  obtain ⟨s, e1, P⟩ := opt_ok P
  match s, e1, P with
  | [c], e1, P => exact ⟨_, by rw [asS_v R e1], rfl, pI S P⟩
  | [], _, P => exact P.elim
  | _ :: _ :: _, _, P => exact P.elim⟩
/-- isinstance -/
def D.tyN : D → Option String
  | .non => some "NoneType"
  | .bl _ => some "bool"
  | .int _ => some "int"
  | .str _ => some "str"
  | .tup _ => some "tuple"
  | .lst _ => some "list"
  | .dk _ => some "dict"
  | .dt _ => some "dict"
  | _ => none
def isA (t n : String) : Bool := t == n || (t == "bool" && n == "int")
def tyNames : List String := ["NoneType", "bool", "int", "str", "tuple", "list", "dict"]
theorem kitB_all : ∀ t ∈ tyNames, ∀ n ∈ tyNames, n ≠ "NoneType" → kitB t n = some (isA t n) := by decide +kernel
/-- the built-in classes' names -/
def tys? : List D → Option (List String)
  | [] => some []
  | .ty n :: ds => if n ∈ tyNames ∧ n ≠ "NoneType" then (tys? ds).map (n :: ·) else none
  | _ => none
theorem tyN_mem {d : D} {t : String} (h : d.tyN = some t) : t ∈ tyNames := by
  cases d <;> cases h <;> decide
theorem tyN_v {K : PySem.W.Frag} {mg : Str → Option Value} {H : Hp} {ρ : List Addr} {d : D} {v : V} {t : String} (r : Rep ⟨K, mg⟩ H ρ d v) (h : d.tyN = some t) : TyX K H v (.type t) := by
  cases r <;> first | (cases h; done) | skip
  · cases h; exact .base .non
  · cases h; exact .base (.bl _)
  · cases h; exact .base (.int _)
  · cases h; exact .base (.str _)
  · cases h
    rename_i hs _
    rcases hs with (hs | ⟨o, hs⟩) | ⟨o, its, n, h1, h2, _⟩
    · exact .base (.tup hs)
    · exact .fTuple hs
    · exact .kTuple h1 h2
  · cases h; exact .base (.lst (by assumption))
  · cases h; exact .base (.dK (by assumption))
  · cases h; exact .base (.dT (by assumption))
theorem call_isiR {X : Cx} : CallR X (.builtin "isinstance") (fun xs H Q => ∃ (x : V) (tp : Addr) (cs : List V) (t : Value) (us : List Value) (b : Bool), xs = [x, .ref tp] ∧ SqT X.K H tp cs ∧ Paired ClsV cs us ∧ TyX X.K H x t ∧ PySem.W.kitAny X.K t us = some b ∧ Q (.bl b) H) := by
  intro pins s σ H xs us Q I r h
  obtain ⟨x, tp, cs, t, ws, b, rfl, hT, k, ty, e, q⟩ := h
  obtain ⟨u1, u2, rfl, r1, r2⟩ := vals2 r
  cases (show u2 = Value.ref tp from r2)
  obtain ⟨P, Z, p, hx⟩ := kit_of I r1 ty
  obtain ⟨its, rv, ⟨o, h1, h2, n, h3⟩, _⟩ := I.tuple hT
  have e3 := ClsV.all k rv
  subst e3
  obtain ⟨oc, od, dt, sl⟩ := o
  simp only at h2 h3
  subst h2 h3
  exact PySem.W.kia_tup Z I.kIn p h1 e hx fun tk => ⟨.bl b, H, I.tok tk, rfl, q⟩
theorem tys_v {g : GG} {F : Hp} {ρ : List Addr} {K : PySem.W.Frag} {t : String} (ht : t ∈ tyNames) : ∀ {ds : List D} {vs : List V} {ns : List String}, Reps g F ρ ds vs → tys? ds = some ns → ∃ us, Paired ClsV vs us ∧ PySem.W.kitAny K (.type t) us = some (ns.any (isA t))
  | [], _, _, r, e => by cases e; cases r; exact ⟨[], .nil, rfl⟩
  | .ty n :: ds, _, ns, r, e => by
    unfold tys? at e
    split at e
    · rename_i hn
      cases q : tys? ds with
      | none => rw [q] at e; cases e
      | some ms =>
        rw [q] at e; cases e
        cases r with
        | cons r1 r2 =>
          cases r1
          obtain ⟨us, h1, h2⟩ := tys_v (K := K) ht r2 q
          refine ⟨.type n :: us, .cons (.ty n) h1, ?_⟩
          have k : PySem.W.kitOne K (.type t) (.type n) = some (isA t n) := kit_ty (kitB_all t ht n hn.1 hn.2)
          rw [PySem.W.kitAny, k, List.any_cons]
          cases q2 : isA t n with
          | true => rfl
          | false => rw [Bool.false_or]; exact h2
    · cases e
  | .non :: _, _, _, _, e => by cases e
  | .bl _ :: _, _, _, _, e => by cases e
  | .int _ :: _, _, _, _, e => by cases e
  | .str _ :: _, _, _, _, e => by cases e
  | .tup _ :: _, _, _, _, e => by cases e
  | .lst _ :: _, _, _, _, e => by cases e
  | .rol _ :: _, _, _, _, e => by cases e
  | .obj _ _ :: _, _, _, _, e => by cases e
  | .dk _ :: _, _, _, _, e => by cases e
  | .dt _ :: _, _, _, _, e => by cases e
  | .loc _ :: _, _, _, _, e => by cases e
def kIsi1 : KN := k2 fun δ x y => opt (x.dat δ) fun d => opt d.tyN fun t => match y with
  | .fz (.ty n) => if n ∈ tyNames ∧ n ≠ "NoneType" then rbv (isA t n) else fail
  | _ => fail
def kIsiT : KN := k2 fun δ x y => opt (x.dat δ) fun d => opt d.tyN fun t => opt y.asT fun ds => opt (tys? ds) fun ns => rbv (ns.any (isA t))
def Rv.isTy : Rv → Bool
  | .fz (.ty _) => true
  | _ => false
def kIsi : KN := fun δ rs => if (rs.getD 1 (.vw 0)).isTy then kIsi1 δ rs else kIsiT δ rs
theorem ok_isi1 : FnK C (.builtin "isinstance") kIsi1 := fnK2 fun X ok => ⟨_, call_isi, fun W H0 F ρ δ st σ H Hs x y v u Q S R R' P => by
  obtain ⟨d, e1, P⟩ := opt_ok P
  obtain ⟨t, e2, P⟩ := opt_ok P
  match y, R', P with
  | .fz (.ty n), R', P =>
    dsimp only at P
    split at P
    · rename_i hn
      cases R'
      exact ⟨v, _, .type t, .type n, isA t n, rfl, .ty n, tyN_v (dat_v S R e1) e2, kit_ty (kitB_all t (tyN_mem e2) n hn.1 hn.2), pB S P⟩
    · exact P.elim
  | .ow _, _, P => exact P.elim
  | .vw _, _, P => exact P.elim
  | .fz .non, _, P => exact P.elim
  | .fz (.bl _), _, P => exact P.elim
  | .fz (.int _), _, P => exact P.elim
  | .fz (.str _), _, P => exact P.elim
  | .fz (.tup _), _, P => exact P.elim
  | .fz (.lst _), _, P => exact P.elim
  | .fz (.rol _), _, P => exact P.elim
  | .fz (.obj _ _), _, P => exact P.elim
  | .fz (.dk _), _, P => exact P.elim
  | .fz (.dt _), _, P => exact P.elim
  | .fz (.loc _), _, P => exact P.elim⟩
theorem ok_isiT : FnK C (.builtin "isinstance") kIsiT := fnK2 fun X ok => ⟨_, call_isiR, fun W H0 F ρ δ st σ H Hs x y v u Q S R R' P => by
  obtain ⟨d, e1, P⟩ := opt_ok P
  obtain ⟨t, e2, P⟩ := opt_ok P
  obtain ⟨ds, e3, P⟩ := opt_ok P
  obtain ⟨ns, e4, P⟩ := opt_ok P
  obtain ⟨p, vs, rfl, h1, f1, h2⟩ := asT_v S R' e3
  obtain ⟨us, k1, k2⟩ := tys_v (K := X.K) (tyN_mem e2) h2 e4
  exact ⟨v, p, vs, .type t, us, _, rfl, h1, k1, tyN_v (dat_v S R e1) e2, k2, pB S P⟩⟩
theorem ok_isi : FnK C (.builtin "isinstance") kIsi := ok_isi1.or ok_isiT
end

/-! ### a def's promise -/
def StoS (g : GG) (F : Hp) (ρ : List Addr) (st : Sto) (H : Hp) : Prop := Same F H ∧ StoOk g F ρ st H
/-- a result: frozen, or new and owned by nobody -/
def RepF (g : GG) (F : Hp) (ρ : List Addr) (H1 H : Hp) : Rv → V → Prop
  | .fz d, v => Rep g F ρ d v
  | .ow c, v => ∃ a, v = .ref a ∧ F a = none ∧ a ∉ ρ ∧ H1 a = none ∧ ConOk g F ρ H a c
  | .vw _, _ => False
def PostF (g : GG) (F : Hp) (ρ : List Addr) (H : Hp) (o : Option (Res Rv × Sto)) (Q : VK) (E : XK) : Prop := match o with
  | none => False
  | some (.ok r, st') => ∀ v ρ' F' H', After ρ F H ρ' F' H' → StoS g F' ρ' st' H' → RepF g F' ρ' H H' r v → Q v H'
  | some (.ex x, st') => ∀ c d ρ' F' H', After ρ F H ρ' F' H' → StoS g F' ρ' st' H' → RepX g F' ρ' H' x c d → E c d H'
/-- f: what it hands back for arguments and cells -/
def spD (g : GG) (n : Nat) (f : List D → M Rv) : Sp := fun vs H Q E => ∃ F ρ ds st, StoS g F ρ st H ∧ Reps g F ρ ds vs ∧ ds.length = n ∧ PostF g F ρ H (f ds st) Q E
theorem spD_len {g : GG} {n : Nat} {f : List D → M Rv} {vs : List V} {H : Hp} {Q : VK} {E : XK} (h : spD g n f vs H Q E) : vs.length = n := by
  obtain ⟨F, ρ, ds, st, S, R, e, _⟩ := h
  rw [← R.length, e]
/-- the name x stands for a def that keeps f's promise -/
def FnD (C : Ctx) (x : Str) (n : Nat) (f : List D → M Rv) : Prop :=
  ∃ (fa : Addr) (fd : FuncData) (ps : List Str), C.mg x = some (.ref fa) ∧ PySem.W.keepIn C.K (.ref fa) = true ∧ Binds C.K fd ps [] ∧ FnOk C.P C.w C.K C.mg C.base (L2.CX C.P C.w) C.k fa fd ps (spD C.gg n f)
theorem St0.after {g : GG} {H0 F H F' H' : Hp} {ρ ρ' : List Addr} {δ : DEnv} {st st' : Sto} {σ : L2.St} (S : St0 g H0 F ρ δ st σ H) (A : After ρ F H ρ' F' H') (S' : StoS g F' ρ' st' H') : St0 g H0 F' ρ' δ st' σ H' := by
  refine ⟨S'.1, S.len, fun i sv q => ?_, S.dist, S'.2⟩
  obtain ⟨v, h1, h2⟩ := S.slot i sv q
  refine ⟨v, h1, ?_⟩
  cases sv with
  | fz d => exact Rep.mono A.ff A.ex h2
  | ow c =>
    obtain ⟨a, e1, e2, e3, e4, e5⟩ := h2
    obtain ⟨o, ho⟩ := e5.there
    exact ⟨a, e1, A.unf ho e3 e2, A.nmem e3 ho, e4, e5.mono e3 A⟩
theorem PostF_of {g : GG} {W : WX} {H0 F H : Hp} {ρ : List Addr} {δ : DEnv} {st : Sto} {σ : L2.St} {o : Option (Res Rv × Sto)} {Q : VK} (S : St0 g H0 F ρ δ st σ H) (P : PostE g W H0 F ρ δ σ H o Q) : PostF g F ρ H o Q (WE W σ) := by
  match o, P with
  | some (.ok r, st'), P =>
    intro v ρ' F' H' A S' R'
    refine P v ρ' F' H' A (S.after A S') ?_
    cases r with
    | fz d => exact R'
    | ow c => exact R'
    | vw i => exact R'.elim
  | some (.ex x, st'), P => exact fun c d ρ' F' H' A S' R' => P c d ρ' F' H' A (S.after A S') R'
def gCall (n : Nat) (f : List D → M Rv) (gs : DEnv → M (List Rv)) : DEnv → M Rv := fun δ => bnd (gs δ) fun rs => opt (allD rs) fun ds => if ds.length = n then f ds else fail
section
variable {C : Ctx} {e : Expr} {es : List Expr} {gs : DEnv → M (List Rv)} {x : Str} {p pos : Pos} {f : List D → M Rv} {n : Nat}
theorem call_rd {X : Cx} {W : WX} {σ : L2.St} {H : Hp} {Q : VK} (h : rdE (xg X) W (gCall n f gs) σ H Q) : tCallS (spD (xg X) n f) (WE W) (rdA (xg X) W gs) σ H Q := by
  obtain ⟨H0, F, ρ, δ, st, S, P⟩ := h
  refine ⟨H0, F, ρ, δ, st, S, PostA_bndE P fun F' ρ' st' H' vs rs A S' R' P' => ?_⟩
  obtain ⟨ds, e2, P2⟩ := opt_ok P'
  split at P2
  · rename_i hl
    exact ⟨F', ρ', ds, st', ⟨S'.fs, S'.sto⟩, allD_ok R' e2, hl, PostF_of S' P2⟩
  · exact P2.elim
theorem de_call (hf : FnD C x n f) (hg : Glo C x) (ha : DA C (e :: es) gs) (hdb : (x == ("__debug__" : Str)) = false := by decide) (hs : noStar e = true := by rfl) (hss : es.all noStar = true := by rfl) (hh : C.hot = false := by rfl) :
    DE C (.Call (.Name x p) (e :: es) [] pos) (gCall n f gs) := fun X W ok tk => by
  obtain ⟨fa, fd, ps, h1, h2, h3, h4⟩ := hf
  have e1 : C.gg = xg X := by unfold Ctx.gg xg; rw [ok.K, ok.mg]
  have h4' : FnOk X.prog X.w X.K X.mg X.base (L2.CX X.prog X.w) C.k fa fd ps (spD (xg X) n f) := by
    rw [ok.prog, ok.w, ok.base, ← e1, ok.K, ok.mg]
    exact h4
  exact peW (pe_callS h4' (ok.room hh) (ok.glo hg) (by rw [ok.mg]; exact h1) (by rw [ok.K]; exact h2) (by rw [ok.K]; exact h3) (fun σ => passAt tk σ) (ha X W ok tk) hdb (star_eq hs) (star_none (e := e) hss)) fun σ H Q h => call_rd h
end
end DL

/-! DL6: statements, defs. -/
namespace DL
open PySem PySem.Spec PyProof.Rows L2 TL
set_option autoImplicit false

/-- where a statement leads -/
inductive Fl where
  | nx (δ : DEnv) | rt (r : Rv) | bk (δ : DEnv) | ct (δ : DEnv) | ex (x : Exn) (δ : DEnv)
abbrev GS := DEnv → Sto → Option (Fl × Sto)
/-- where a def began, and what a loop leans on -/
structure En where
  H0 : Hp
  F0 : Hp
  ρ0 : List Addr
  Fb : Hp
  ρb : List Addr
structure Lat (E : En) (ρ : List Addr) (F H : Hp) : Prop where
  a : After E.ρ0 E.F0 E.H0 ρ F H
  b : Same E.Fb F
  p : ∃ l, ρ = E.ρb ++ l
theorem Lat.step {E : En} {ρ ρ' : List Addr} {F H F' H' : Hp} (l : Lat E ρ F H) (A : After ρ F H ρ' F' H') : Lat E ρ' F' H' := by
  refine ⟨l.a.trans A, l.b.trans A.ff, ?_⟩
  obtain ⟨x, hx⟩ := l.p
  obtain ⟨y, hy⟩ := A.ex
  exact ⟨x ++ y, by rw [hy, hx, List.append_assoc]⟩
def PostS (g : GG) (W : WX) (E : En) (o : Option (Fl × Sto)) (D : Ends) : Prop := match o with
  | none => False
  | some (.nx δ', st') => ∀ σ' ρ' F' H', Lat E ρ' F' H' → St0 g E.H0 F' ρ' δ' st' σ' H' → D.nx σ' H'
  | some (.bk δ', st') => ∀ σ' ρ' F' H', Lat E ρ' F' H' → St0 g E.H0 F' ρ' δ' st' σ' H' → D.bk σ' H'
  | some (.ct δ', st') => ∀ σ' ρ' F' H', Lat E ρ' F' H' → St0 g E.H0 F' ρ' δ' st' σ' H' → D.ct σ' H'
  | some (.rt r, st') => ∀ v ρ' F' H', Lat E ρ' F' H' → StoS g F' ρ' st' H' → RepF g F' ρ' E.H0 H' r v → D.rt v H'
  | some (.ex x δ', st') => ∀ c d σ' ρ' F' H', Lat E ρ' F' H' → St0 g E.H0 F' ρ' δ' st' σ' H' → RepX g F' ρ' H' x c d → W c d σ' H'
def rdS (g : GG) (W : WX) (gs : GS) : TS := fun D σ H => ∃ E F ρ δ st, Lat E ρ F H ∧ St0 g E.H0 F ρ δ st σ H ∧ PostS g W E (gs δ st) D
def DS (C : Ctx) (s : Stmt) (gs : GS) : Prop := ∀ X W, CtxOk C X → Takes X W → PS X s (rdS (xg X) W gs)
def DSs (C : Ctx) (ss : List Stmt) (gs : GS) : Prop := ∀ X W, CtxOk C X → Takes X W → PSs X ss (rdS (xg X) W gs)

/-! ### sequences -/
def sNext : GS := fun δ st => some (.nx δ, st)
def sSeq (a b : GS) : GS := fun δ st => match a δ st with
  | some (.nx δ', st') => b δ' st'
  | o => o
/-- an expression's value, then a statement -/
def sBnd {α : Type} (m : M α) (δ : DEnv) (k : α → Sto → Option (Fl × Sto)) : Sto → Option (Fl × Sto) := fun st => match m st with
  | none => none
  | some (.ok a, st') => k a st'
  | some (.ex x, st') => some (.ex x δ, st')
section
variable {g : GG} {W : WX} {E : En} {F F' H H' H1 : Hp} {ρ ρ' : List Addr} {δ : DEnv} {σ : L2.St} {st st' : Sto} {r : Rv} {rs : List Rv} {v : V} {vs : List V} {D : Ends}
theorem PostS_seq {a b : GS} (A : Lat E ρ F H) (P : PostS g W E (sSeq a b δ st) D) : PostS g W E (a δ st) { D with nx := rdS g W b D } := by
  unfold sSeq at P
  match e : a δ st, P with
  | none, P => exact P
  | some (.nx δ', st'), P => exact fun σ' ρ' F' H' A' S' => ⟨E, F', ρ', δ', st', A', S', P⟩
  | some (.bk δ', st'), P => exact P
  | some (.ct δ', st'), P => exact P
  | some (.rt r, st'), P => exact P
  | some (.ex x δ', st'), P => exact P
theorem PostS_bnd {m : M Rv} {k : Rv → Sto → Option (Fl × Sto)} {R : V → Hp → Prop} (A : Lat E ρ F H) (P : PostS g W E (sBnd m δ k st) D)
    (hk : ∀ F' ρ' st' H' v r, After ρ F H ρ' F' H' → Lat E ρ' F' H' → St0 g E.H0 F' ρ' δ st' σ H' → RepR g F' ρ' δ σ H H' r v → PostS g W E (k r st') D → R v H') : PostE g W E.H0 F ρ δ σ H (m st) R := by
  unfold sBnd at P
  match e : m st, P with
  | none, P => exact P
  | some (.ok r, st'), P => exact fun v ρ' F' H' A' S' R' => hk F' ρ' st' H' v r A' (A.step A') S' R' P
  | some (.ex x, st'), P => exact fun c d ρ' F' H' A' S' R' => P c d σ ρ' F' H' (A.step A') S' R'
theorem PostS_bndT {m : M Bool} {k : Bool → Sto → Option (Fl × Sto)} {R : Bool → Hp → Prop} (A : Lat E ρ F H) (P : PostS g W E (sBnd m δ k st) D)
    (hk : ∀ F' ρ' st' H' b, Lat E ρ' F' H' → St0 g E.H0 F' ρ' δ st' σ H' → PostS g W E (k b st') D → R b H') : PostT g W E.H0 F ρ δ σ H (m st) R := by
  unfold sBnd at P
  match e : m st, P with
  | none, P => exact P
  | some (.ok r, st'), P => exact fun ρ' F' H' A' S' => hk F' ρ' st' H' r (A.step A') S' P
  | some (.ex x, st'), P => exact fun c d ρ' F' H' A' S' R' => P c d σ ρ' F' H' (A.step A') S' R'
end
section
variable {C : Ctx} {s : Stmt} {ss : List Stmt} {a b : GS} {e c : Expr} {ga : DEnv → M Rv} {gt : DEnv → M Bool} {pos : Pos}
theorem dss_nil : DSs C [] sNext := fun X W ok tk => pssW pss_nil fun D σ H ⟨E, F, ρ, δ, st, A, S, P⟩ => P σ ρ F H A S
theorem dss_cons (h : DS C s a) (hs : DSs C ss b) : DSs C (s :: ss) (sSeq a b) := fun X W ok tk => by
  refine pssW (pss_cons (h X W ok tk) (hs X W ok tk)) fun D σ H ⟨E, F, ρ, δ, st, A, S, P⟩ => ?_
  exact ⟨E, F, ρ, δ, st, A, S, PostS_seq A P⟩
theorem dss_one (h : DS C s a) : DSs C [s] a := fun X W ok tk => pss_one (h X W ok tk)
theorem ds_pass : DS C (.Pass pos) sNext := fun X W ok tk => psW ps_pass fun D σ H ⟨E, F, ρ, δ, st, A, S, P⟩ => P σ ρ F H A S
theorem ds_break : DS C (.Break pos) (fun δ st => some (.bk δ, st)) := fun X W ok tk => psW ps_break fun D σ H ⟨E, F, ρ, δ, st, A, S, P⟩ => P σ ρ F H A S
theorem ds_continue : DS C (.Continue pos) (fun δ st => some (.ct δ, st)) := fun X W ok tk => psW ps_continue fun D σ H ⟨E, F, ρ, δ, st, A, S, P⟩ => P σ ρ F H A S
theorem ds_never : DS C s (fun _ _ => none) := fun X W ok tk => psW ps_never fun D σ H ⟨E, F, ρ, δ, st, A, S, P⟩ => P.elim
theorem ds_doc {x : Str} {j pos pos'} : DS C (.Expr (.Constant (.str x) j pos) pos') sNext := fun X W ok tk => psW ps_doc fun D σ H ⟨E, F, ρ, δ, st, A, S, P⟩ => P σ ρ F H A S
/-! ### if -/
def sIf (gt : DEnv → M Bool) (a b : GS) : GS := fun δ => sBnd (gt δ) δ fun c => if c then a δ else b δ
variable {sa sb : List Stmt}
theorem ds_if (hc : DT C c gt) (ha : DSs C sa a) (hb : DSs C sb b) : DS C (.If c sa sb pos) (sIf gt a b) := fun X W ok tk => by
  refine psW (ps_if (hc X W ok tk) (ha X W ok tk) (hb X W ok tk)) fun D σ H ⟨E, F, ρ, δ, st, A, S, P⟩ => ?_
  refine ⟨E.H0, F, ρ, δ, st, S, PostS_bndT A P fun F' ρ' st' H' t A' S' P' => ?_⟩
  cases t with
  | true => simp only [if_true] at P' ⊢; exact ⟨E, F', ρ', δ, st', A', S', P'⟩
  | false => simp only [Bool.false_eq_true, if_false] at P' ⊢; exact ⟨E, F', ρ', δ, st', A', S', P'⟩
/-! ### an expression alone; return -/
def sExpr (ga : DEnv → M Rv) : GS := fun δ => sBnd (ga δ) δ fun _ st => some (.nx δ, st)
/-- a comprehension whose value is dropped is another statement -/
def noComp : Expr → Bool
  | .ListComp .. => false
  | .SetComp .. => false
  | .DictComp .. => false
  | _ => true
theorem swaps_none {e : Expr} {t : Option Expr} {l : Nat} {env : Env} (h : noComp e = true) : swapsWith e t l env = pure false := by
  cases e <;> first | rfl | cases h
theorem ds_expr (ha : DE C e ga) (hn : noComp e = true := by rfl) : DS C (.Expr e pos) (sExpr ga) := fun X W ok tk => by
  refine psW (ps_expr (ha X W ok tk) (swaps_none hn)) fun D σ H ⟨E, F, ρ, δ, st, A, S, P⟩ => ?_
  exact ⟨E.H0, F, ρ, δ, st, S, PostS_bnd A P fun F' ρ' st' H' v r A' A2 S' R' P' => P' σ ρ' F' H' A2 S'⟩
/-- what is handed back: what slot i owns is let go -/
def Rv.out (δ : DEnv) : Rv → Option Rv
  | .fz d => some (.fz d)
  | .ow c => some (.ow c)
  | .vw i => (ownAt δ i).map .ow
def sRet (ga : DEnv → M Rv) : GS := fun δ => sBnd (ga δ) δ fun r st => match r.out δ with
  | some r => some (.rt r, st)
  | none => none
theorem out_v {g : GG} {H0 F F0 H H1 : Hp} {ρ ρ0 ρ1 : List Addr} {δ : DEnv} {σ : L2.St} {st : Sto} {r r' : Rv} {v : V} {F1 : Hp} (A0 : After ρ0 F0 H0 ρ1 F1 H1) (A : After ρ1 F1 H1 ρ F H) (S : St0 g H0 F ρ δ st σ H) (R : RepR g F ρ δ σ H1 H r v) (e : r.out δ = some r') : RepF g F ρ H0 H r' v := by
  cases r with
  | fz d => cases e; exact R
  | ow c =>
    cases e
    obtain ⟨a, e1, e2, e3, e4, e5⟩ := R
    exact ⟨a, e1, e2, e3, A0.back (fun z => e3 (A.mem (A0.mem z))) e4, e5⟩
  | vw i =>
    change (ownAt δ i).map Rv.ow = some r' at e
    cases q : ownAt δ i with
    | none => rw [q] at e; cases e
    | some c =>
      rw [q] at e; cases e
      unfold ownAt at q
      split at q
      · rename_i q2
        cases q
        obtain ⟨v', h1, h2⟩ := S.slot i _ q2
        rw [R.1] at h1; cases h1
        obtain ⟨a, e1, e2, e3, e4, e5⟩ := h2
        exact ⟨a, e1, e2, e3, e4, e5⟩
      · cases q
theorem ds_ret (ha : DE C e ga) : DS C (.Return (some e) pos) (sRet ga) := fun X W ok tk => by
  refine psW (ps_ret (ha X W ok tk)) fun D σ H ⟨E, F, ρ, δ, st, A, S, P⟩ => ?_
  refine ⟨E.H0, F, ρ, δ, st, S, PostS_bnd A P fun F' ρ' st' H' v r A' A2 S' R' P' => ?_⟩
  cases q : r.out δ with
  | none => rw [q] at P'; exact P'.elim
  | some r' =>
    rw [q] at P'
    exact P' v ρ' F' H' A2 ⟨S'.fs, S'.sto⟩ (out_v A.a A' S' R' q)
def sRetN : GS := fun _ st => some (.rt (.fz .non), st)
theorem ds_retN : DS C (.Return none pos) sRetN := fun X W ok tk => psW ps_retN fun D σ H ⟨E, F, ρ, δ, st, A, S, P⟩ => P .non ρ F H A ⟨S.fs, S.sto⟩ .non
end

/-! ### freezing what a slot owns -/
def frzS (i : Nat) (δ : DEnv) : DEnv := match ownAt δ i with
  | some c => δ.set i (some (.fz c.fz))
  | none => δ
def sFrz (is : List Nat) (a : GS) : GS := fun δ => a (is.foldl (fun δ i => frzS i δ) δ)
theorem frzS_ok {g : GG} {E : En} {F H : Hp} {ρ : List Addr} {δ : DEnv} {σ : L2.St} {st : Sto} (A : Lat E ρ F H) (S : St0 g E.H0 F ρ δ st σ H) (i : Nat) : ∃ F', Lat E ρ F' H ∧ St0 g E.H0 F' ρ (frzS i δ) st σ H := by
  unfold frzS
  cases q : ownAt δ i with
  | none => exact ⟨F, A, S⟩
  | some c =>
    unfold ownAt at q
    split at q
    · rename_i q2
      cases q
      obtain ⟨v, h1, a, rfl, e2, e3, e4, e5⟩ := S.slot i _ q2
      have e := same_frz (a := a) S.fs
      have p : ∃ l, ρ = ρ ++ l := ⟨[], by simp⟩
      have hi : i < δ.length := (List.getElem?_eq_some_iff.mp q2).1
      have key : ∀ (j : Nat) (sv : SV), (δ.set i (some (SV.fz c.fz)))[j]? = some (some sv) → (j = i ∧ sv = .fz c.fz) ∨ (j ≠ i ∧ δ[j]? = some (some sv)) := fun j sv h => by
        by_cases z : j = i
        · subst z
          rw [List.getElem?_set_self hi] at h
          cases h
          exact .inl ⟨rfl, rfl⟩
        · rw [List.getElem?_set_ne (Ne.symm z)] at h
          exact .inr ⟨z, h⟩
      refine ⟨frzAt F H a, ⟨⟨A.a.ff.trans e, fun b o k1 k2 => ?_, A.a.pre, A.a.hk⟩, A.b.trans e, A.p⟩, frz_same S.fs, by rw [List.length_set]; exact S.len, fun j sv h => ?_, fun j k b cj ck hj hk sj sk => ?_, ⟨S.sto.len, S.sto.nd, S.sto.there, fun n c' k => ?_⟩⟩
      · by_cases z : b = a
        · subst z; exact .inl e4
        · rw [frz_ne z] at k1; exact A.a.fn b o k1 k2
      · rcases key j sv h with ⟨rfl, rfl⟩ | ⟨z, h⟩
        · exact ⟨_, h1, e5.frz S.fs⟩
        · obtain ⟨u, u1, u2⟩ := S.slot j sv h
          refine ⟨u, u1, ?_⟩
          cases sv with
          | fz d => exact Rep.mono e p u2
          | ow c' =>
            obtain ⟨b, rfl, k2, k3, k4, k5⟩ := u2
            refine ⟨b, rfl, ?_, k3, k4, k5.frzF e⟩
            rw [frz_ne]
            · exact k2
            · rintro rfl
              exact z (S.dist j i b _ _ h q2 u1 h1)
      · rcases key j _ hj with ⟨_, z⟩ | ⟨_, hj⟩
        · cases z
        · rcases key k _ hk with ⟨_, z⟩ | ⟨_, hk⟩
          · cases z
          · exact S.dist j k b cj ck hj hk sj sk
      · obtain ⟨b, k1, k2, k3⟩ := S.sto.live n c' k
        refine ⟨b, k1, ?_, k3.frzF e⟩
        rw [frz_ne]
        · exact k2
        · rintro rfl
          exact e3 (List.mem_of_getElem? k1)
    · cases q
theorem frzs_ok {g : GG} {E : En} {H : Hp} {ρ : List Addr} {σ : L2.St} {st : Sto} : ∀ (is : List Nat) {F : Hp} {δ : DEnv}, Lat E ρ F H → St0 g E.H0 F ρ δ st σ H → ∃ F', Lat E ρ F' H ∧ St0 g E.H0 F' ρ (is.foldl (fun δ i => frzS i δ) δ) st σ H
  | [], F, δ, A, S => ⟨F, A, S⟩
  | i :: is, F, δ, A, S => by
    obtain ⟨F1, A1, S1⟩ := frzS_ok A S i
    exact frzs_ok is A1 S1
theorem ds_frz {C : Ctx} {s : Stmt} {a : GS} (is : List Nat) (h : DS C s a) : DS C s (sFrz is a) := fun X W ok tk => psW (h X W ok tk) fun D σ H ⟨E, F, ρ, δ, st, A, S, P⟩ => by
  obtain ⟨F1, A1, S1⟩ := frzs_ok is A S
  exact ⟨E, F1, ρ, _, st, A1, S1, P⟩
theorem dss_frz {C : Ctx} {s : List Stmt} {a : GS} (is : List Nat) (h : DSs C s a) : DSs C s (sFrz is a) := fun X W ok tk => pssW (h X W ok tk) fun D σ H ⟨E, F, ρ, δ, st, A, S, P⟩ => by
  obtain ⟨F1, A1, S1⟩ := frzs_ok is A S
  exact ⟨E, F1, ρ, _, st, A1, S1, P⟩

/-! ### stores to names -/
/-- a slot takes a value -/
def Rv.sv : Rv → Option SV
  | .fz d => some (.fz d)
  | .ow c => some (.ow c)
  | .vw _ => none
def setR (i : Nat) (r : Rv) (δ : DEnv) : Option DEnv := r.sv.map fun s => δ.set i (some s)
theorem set_ok {g : GG} {H0 F0 F H F1 H1 : Hp} {ρ0 ρ ρ1 : List Addr} {δ δ' : DEnv} {σ : L2.St} {st st1 : Sto} {i : Nat} {r : Rv} {v : V} (A0 : ∀ c, r = .ow c → After ρ0 F0 H0 ρ1 F1 H1) (S1 : St0 g H0 F1 ρ1 δ st1 σ H1) (A : After ρ1 F1 H1 ρ F H) (S : St0 g H0 F ρ δ st σ H) (R : RepR g F ρ δ σ H1 H r v) (e : setR i r δ = some δ') : St0 g H0 F ρ δ' st (σ.set i (some v)) H := by
  unfold setR at e
  cases q : r.sv with
  | none => rw [q] at e; cases e
  | some sv =>
    rw [q] at e
    obtain rfl : δ.set i (some sv) = δ' := Option.some.inj e
    by_cases hi : i < δ.length
    · have hi2 : i < σ.length := by rw [S.len]; exact hi
      have key : ∀ (j : Nat) (s : SV), (δ.set i (some sv))[j]? = some (some s) → (j = i ∧ s = sv) ∨ (j ≠ i ∧ δ[j]? = some (some s)) := fun j s h => by
        by_cases z : j = i
        · subst z
          rw [List.getElem?_set_self hi] at h
          cases h
          exact .inl ⟨rfl, rfl⟩
        · rw [List.getElem?_set_ne (Ne.symm z)] at h
          exact .inr ⟨z, h⟩
      have keyS : ∀ (j : Nat), j ≠ i → (σ.set i (some v))[j]? = σ[j]? := fun j z => List.getElem?_set_ne (Ne.symm z)
      have keyI : (σ.set i (some v))[i]? = some (some v) := List.getElem?_set_self hi2
      have slot : SlotOk g H0 F ρ H sv v := by
        cases r with
        | fz d => cases q; exact R
        | ow c =>
          cases q
          obtain ⟨a, e1, e2, e3, e4, e5⟩ := R
          exact ⟨a, e1, e2, e3, (A0 c rfl).back (fun z => e3 (A.mem ((A0 c rfl).mem z))) e4, e5⟩
        | vw j => cases q
      refine ⟨S.fs, by rw [List.length_set, List.length_set]; exact S.len, fun j s h => ?_, fun j k b cj ck hj hk sj sk => ?_, S.sto⟩
      · rcases key j s h with ⟨rfl, rfl⟩ | ⟨z, h⟩
        · exact ⟨v, keyI, slot⟩
        · rw [keyS j z]; exact S.slot j s h
      · -- a new own value differs from the old ones
        have new : ∀ (j : Nat) (b : Addr) (cj ci : Con), δ[j]? = some (some (.ow cj)) → σ[j]? = some (some (.ref b)) → sv = .ow ci → v = .ref b → False := fun j b cj ci h1 h2 h3 h4 => by
          subst h3
          cases r with
          | fz d => cases q
          | vw j => cases q
          | ow c =>
            obtain ⟨a, e1, e2, e3, e4, e5⟩ := R
            rw [h4] at e1; cases e1
            obtain ⟨u, u1, u2⟩ := S1.slot j _ h1
            rw [h2] at u1; cases u1
            obtain ⟨a', k1, _, _, _, k5⟩ := u2
            cases k1
            obtain ⟨o, ho⟩ := k5.there
            rw [e4] at ho; cases ho
        rcases key j _ hj with ⟨y1, z1⟩ | ⟨y1, z1⟩
        · rcases key k _ hk with ⟨y2, z2⟩ | ⟨y2, z2⟩
          · rw [y1, y2]
          · rw [y1, keyI] at sj; cases sj
            rw [keyS k y2] at sk
            exact (new k b ck cj z2 sk z1.symm rfl).elim
        · rcases key k _ hk with ⟨y2, z2⟩ | ⟨y2, z2⟩
          · rw [y2, keyI] at sk; cases sk
            rw [keyS j y1] at sj
            exact (new j b cj ck z1 sj z2.symm rfl).elim
          · rw [keyS j y1] at sj
            rw [keyS k y2] at sk
            exact S.dist j k b cj ck z1 z2 sj sk
    · have h1 : δ.set i (some sv) = δ := List.set_eq_of_length_le (Nat.le_of_not_lt hi)
      have h2 : σ.set i (some v) = σ := List.set_eq_of_length_le (by rw [S.len]; exact Nat.le_of_not_lt hi)
      rw [h1, h2]
      exact S
def sSet (i : Nat) (ga : DEnv → M Rv) : GS := fun δ => sBnd (ga δ) δ fun r st => match setR i r δ with
  | some δ' => some (.nx δ', st)
  | none => none
section
variable {C : Ctx} {e : Expr} {ga : DEnv → M Rv} {pos pos' : Pos} {i : Nat} {x : Str}
theorem set_rd {X : Cx} {W : WX} {D : Ends} {σ : L2.St} {H : Hp} (h : rdS (xg X) W (sSet i ga) D σ H) : tAsg (rdE (xg X) W ga) (L2.gName i) D σ H := by
  obtain ⟨E, F, ρ, δ, st, A, S, P⟩ := h
  refine ⟨E.H0, F, ρ, δ, st, S, PostS_bnd A P fun F' ρ' st' H' v r A' A2 S' R' P' => ?_⟩
  cases q : setR i r δ with
  | none => rw [q] at P'; exact P'.elim
  | some δ' =>
    rw [q] at P'
    exact P' (σ.set i (some v)) ρ' F' H' A2 (set_ok (fun _ _ => A.a) S A' S' R' q)
theorem ds_set (hi : C.N[i]? = some x) (hx : Stor C x) (ha : DE C e ga) (hn : noComp e = true := by rfl) : DS C (.Assign [.Name x pos'] e pos) (sSet i ga) := fun X W ok tk =>
  psW (ps_set (i := i) (by rw [ok.N]; exact ok.nd) (by rw [ok.N]; exact hi) (ok.loc hx) (ha X W ok tk) (swaps_none hn) (ok.fn hx)) fun D σ H h => set_rd h
end

/-! ### defs -/
def startD (N : List Str) (ds : List D) : DEnv := ds.map (fun d => some (.fz d)) ++ List.replicate (N.length - ds.length) none
def runB (N : List Str) (gs : GS) (ds : List D) : M Rv := fun st => match gs (startD N ds) st with
  | none => none
  | some (.nx _, st') => some (.ok (.fz .non), st')
  | some (.rt r, st') => some (.ok r, st')
  | some (.bk _, _) => none
  | some (.ct _, _) => none
  | some (.ex x _, st') => some (.ex x, st')
theorem start_ok {g : GG} {F H : Hp} {ρ : List Addr} {ds : List D} {vs : List V} {st : Sto} {N : List Str} (S : StoS g F ρ st H) (R : Reps g F ρ ds vs) : St0 g H F ρ (startD N ds) st (L2.start N vs) H := by
  have key : ∀ (i : Nat) (sv : SV), (startD N ds)[i]? = some (some sv) → ∃ d, ds[i]? = some d ∧ sv = .fz d := fun i sv h => by
    unfold startD at h
    by_cases hi : i < ds.length
    · rw [List.getElem?_append_left (by simpa using hi), List.getElem?_map] at h
      cases q : ds[i]? with
      | none => rw [q] at h; cases h
      | some d => rw [q] at h; cases h; exact ⟨d, rfl, rfl⟩
    · rw [List.getElem?_append_right (by simpa using hi), List.getElem?_replicate] at h
      split at h <;> cases h
  refine ⟨S.1, ?_, fun i sv h => ?_, fun i j a ci cj h _ _ _ => ?_, S.2⟩
  · unfold L2.start startD
    rw [List.length_append, List.length_append, List.length_map, List.length_map, List.length_replicate, List.length_replicate, R.length]
  · obtain ⟨d, h1, rfl⟩ := key i sv h
    obtain ⟨v, h2, h3⟩ := R.get h1
    refine ⟨v, ?_, h3⟩
    unfold L2.start
    have hi : i < vs.length := (List.getElem?_eq_some_iff.mp h2).1
    rw [List.getElem?_append_left (by simpa using hi), List.getElem?_map, h2]
    rfl
  · obtain ⟨d, _, z⟩ := key i _ h
    cases z
/-- THE RULE: a def by its body -/
theorem fnok {P : Program} {w : World} {K : PySem.W.Frag} {mg : Str → Option Value} {base : Heap} {x qual : Str} {stm : Stmt} {f : Addr} {fd : FuncData} {N ps : List Str} {k : Nat} {gs : GS}
    (Fn : Fun K x qual stm f fd) (Sc : FnScope N ps (defScope stm)) (hb : DSs ⟨P, w, K, mg, base, N, defScope stm, k, fun _ => true, false, none⟩ (defBody stm) gs) :
    FnOk P w K mg base (L2.CX P w) (k + 1) f fd ps (spD ⟨K, mg⟩ ps.length (runB N gs)) := by
  refine Fn.okX Sc (fun vs H Q E h => spD_len h) fun cdv A outer s H vs Q E hr h => ?_
  obtain ⟨F, ρ, ds, st, S, R, hl, Po⟩ := h
  have ok : CtxOk ⟨P, w, K, mg, base, N, defScope stm, k, fun _ => true, false, none⟩ (cxOf (L2.CX P w) P w K mg base N qual (defScope stm) f cdv A outer s H E) :=
    ⟨rfl, rfl, rfl, rfl, rfl, rfl, rfl, fun _ => rfl, fun _ => hr, hr.dp, hr.un, passes_of rfl, Sc.nd, fun _ _ => rfl, fun _ _ h => by cases h⟩
  refine ⟨_, hb _ (fun cls d _ H => E cls d H) ok (takes_of rfl rfl rfl (E := E) rfl), ?_⟩
  refine ⟨⟨H, F, ρ, F, ρ⟩, F, ρ, startD N ds, st, ⟨.refl, Same.refl F, ⟨[], by simp⟩⟩, start_ok S R, ?_⟩
  unfold runB at Po
  match e : gs (startD N ds) st, Po with
  | none, Po => exact Po
  | some (.nx δ', st'), Po => exact fun σ' ρ' F' H' A' S' => Po .non ρ' F' H' A'.a ⟨S'.fs, S'.sto⟩ .non
  | some (.rt r, st'), Po => exact fun v ρ' F' H' A' S' R' => Po v ρ' F' H' A'.a S' R'
  | some (.bk _, _), Po => exact Po.elim
  | some (.ct _, _), Po => exact Po.elim
  | some (.ex x δ', st'), Po => exact fun c d σ' ρ' F' H' A' S' R' => Po c d ρ' F' H' A'.a ⟨S'.fs, S'.sto⟩ R'
end DL

/-! DL7: what a slot owns is changed. -/
namespace DL
open PySem PySem.Spec PyProof.Rows L2 TL
set_option autoImplicit false

theorem own_at {δ : DEnv} {i : Nat} {c : Con} (e : ownAt δ i = some c) : δ[i]? = some (some (.ow c)) := by
  unfold ownAt at e
  split at e
  · cases e; assumption
  · cases e
/-- the object that slot i owns is changed -/
theorem own_upd {g : GG} {E : En} {F H : Hp} {ρ : List Addr} {δ : DEnv} {σ : L2.St} {st : Sto} {i : Nat} {c c' : Con} {a : Addr} {o : HO} (A : Lat E ρ F H) (S : St0 g E.H0 F ρ δ st σ H) (e : ownAt δ i = some c) (hs : σ[i]? = some (some (.ref a)))
    (k : ConOk g F ρ (upd H a o) a c') : Lat E ρ F (upd H a o) ∧ St0 g E.H0 F ρ (δ.set i (some (.ow c'))) st σ (upd H a o) := by
  have q := own_at e
  obtain ⟨v, h1, b, e1, e2, e3, e4, e5⟩ := S.slot i _ q
  rw [hs] at h1; cases h1; cases e1
  have hi : i < δ.length := (List.getElem?_eq_some_iff.mp q).1
  have key : ∀ (j : Nat) (s : SV), (δ.set i (some (.ow c')))[j]? = some (some s) → (j = i ∧ s = .ow c') ∨ (j ≠ i ∧ δ[j]? = some (some s)) := fun j s h => by
    by_cases z : j = i
    · subst z
      rw [List.getElem?_set_self hi] at h
      cases h
      exact .inl ⟨rfl, rfl⟩
    · rw [List.getElem?_set_ne (Ne.symm z)] at h
      exact .inr ⟨z, h⟩
  have ne : ∀ b o', E.H0 b = some o' → b ≠ a := fun b o' h z => by subst z; rw [e4] at h; cases h
  have fne : ∀ b o', F b = some o' → b ≠ a := fun b o' h z => by subst z; rw [e2] at h; cases h
  refine ⟨⟨⟨A.a.ff, A.a.fn, A.a.pre, fun b o' h n => ?_⟩, A.b, A.p⟩, fun b o' h => ?_, by rw [List.length_set]; exact S.len, fun j s h => ?_, fun j k b cj ck hj hk sj sk => ?_, S.sto.len, S.sto.nd, fun b hb => ?_, fun n cc h => ?_⟩
  · rw [upd_ne (ne b o' h)]; exact A.a.hk b o' h n
  · rw [upd_ne (fne b o' h)]; exact S.fs b o' h
  · rcases key j s h with ⟨rfl, rfl⟩ | ⟨z, h⟩
    · exact ⟨_, hs, a, rfl, e2, e3, e4, k⟩
    · obtain ⟨u, u1, u2⟩ := S.slot j s h
      refine ⟨u, u1, ?_⟩
      cases s with
      | fz d => exact u2
      | ow cc =>
        obtain ⟨b, rfl, k2, k3, k4, k5⟩ := u2
        have hb : b ≠ a := by
          rintro rfl
          exact z (S.dist j i b _ _ h q u1 hs)
        exact ⟨b, rfl, k2, k3, k4, k5.kept (Same.refl F) ⟨[], by simp⟩ fun o' h' => by rw [upd_ne hb]; exact h'⟩
  · have g1 : ∃ cc, δ[j]? = some (some (.ow cc)) := by
      rcases key j _ hj with ⟨y, z⟩ | ⟨y, z⟩
      · exact ⟨c, by rw [y]; exact q⟩
      · exact ⟨cj, z⟩
    have g2 : ∃ cc, δ[k]? = some (some (.ow cc)) := by
      rcases key k _ hk with ⟨y, z⟩ | ⟨y, z⟩
      · exact ⟨c, by rw [y]; exact q⟩
      · exact ⟨ck, z⟩
    obtain ⟨c1, g1⟩ := g1
    obtain ⟨c2, g2⟩ := g2
    exact S.dist j k b c1 c2 g1 g2 sj sk
  · have hb2 : b ≠ a := fun z => e3 (by rw [← z]; exact hb)
    rw [upd_ne hb2]
    exact S.sto.there b hb
  · obtain ⟨b, k1, k2, k3⟩ := S.sto.live n cc h
    have hb2 : b ≠ a := fun z => e3 (by rw [← z]; exact List.mem_of_getElem? k1)
    exact ⟨b, k1, k2, k3.kept (Same.refl F) ⟨[], by simp⟩ fun o' h' => by rw [upd_ne hb2]; exact h'⟩

/-- x.m(..) of a list that slot i owns: f tells the new list from the old one and the frozen arguments -/
def ownL (δ : DEnv) (i : Nat) : Option (List D) := match ownAt δ i with
  | some (.lst ds) => some ds
  | _ => none
def sOwn (i : Nat) (gs : DEnv → M (List Rv)) (f : List D → List D → Option (List D)) : GS := fun δ => match ownL δ i with
  | some ds => sBnd (gs δ) δ fun rs st => match (allD rs).bind (f ds) with
    | some ds' => some (.nx (δ.set i (some (.ow (.lst ds')))), st)
    | none => none
  | none => fun _ => none
theorem PostS_bndA {g : GG} {W : WX} {E : En} {F H : Hp} {ρ : List Addr} {δ : DEnv} {σ : L2.St} {st : Sto} {D : Ends} {m : M (List Rv)} {k : List Rv → Sto → Option (Fl × Sto)} {R : List V → Hp → Prop} (A : Lat E ρ F H) (P : PostS g W E (sBnd m δ k st) D)
    (hk : ∀ F' ρ' st' H' vs rs, After ρ F H ρ' F' H' → Lat E ρ' F' H' → St0 g E.H0 F' ρ' δ st' σ H' → RepRs g F' ρ' δ σ H H' rs vs → PostS g W E (k rs st') D → R vs H') : PostA g W E.H0 F ρ δ σ H (m st) R := by
  unfold sBnd at P
  match e : m st, P with
  | none, P => exact P
  | some (.ok r, st'), P => exact fun v ρ' F' H' A' S' R' => hk F' ρ' st' H' v r A' (A.step A') S' R' P
  | some (.ex x, st'), P => exact fun c d ρ' F' H' A' S' R' => P c d σ ρ' F' H' (A.step A') S' R'
/-- what a list's method does to the list -/
def MutL (r : V → List V → Hp → VK → Prop) (f : List D → List D → Option (List D)) : Prop := ∀ (g : GG) (F : Hp) (ρ : List Addr) (ds es ds' : List D) (xs vs : List V) (a : Addr) (H : Hp) (Q : VK), Same F H → H a = some (.lst xs) → Reps g F ρ ds xs → Reps g F ρ es vs → f ds es = some ds' →
  (∀ xs', Reps g F ρ ds' xs' → Q .non (upd H a (.lst xs'))) → r (.ref a) vs H Q
theorem star_all {es : List Expr} {env : Env} {pos : Pos} (h : es.all noStar = true) : (backTo pos (starEach es env)).all (fun x => !x.1) = true := by
  induction es with
  | nil => rfl
  | cons e es ih =>
    rw [List.all_cons, Bool.and_eq_true] at h
    rw [star_eq h.1]
    show (true && (backTo pos (starEach es env)).all (fun x => !x.1)) = true
    rw [ih h.2]
    rfl
theorem few_ok {es : List Expr} {env : Env} {pos : Pos} (h : es.all noStar = true) (hl : decide (es.length < 30) = true) : ((backTo pos (starEach es env)).all (fun x => !x.1) && (backToKw pos (keywordEach [] env)).all (fun x => x.1.isSome)
      && decide (es.length + ([] : List Keyword).length + (if ([] : List Keyword).isEmpty then 0 else 1) < 30)) = true := by
  rw [star_all h]
  show (true && true && decide (es.length + 0 + 0 < 30)) = true
  exact hl
section
variable {C : Ctx} {e : Expr} {es : List Expr} {gs : DEnv → M (List Rv)} {pos apos p1 p2 : Pos} {i : Nat} {x m : Str} {id : String} {f : List D → List D → Option (List D)}
theorem ds_own {r : V → List V → Hp → VK → Prop} (slot : Slot "list" m id) (hty : typeOf (.builtin id) = pure (.type "method_descriptor")) (hm : ∀ X, CtxOk C X → MtR X id r) (mu : MutL r f)
    (hN : C.N[i]? = some x) (hv : Vis C.sc x) (ha : DA C (e :: es) gs) (hd : (x == ("__debug__" : Str)) = false := by decide) (hcd : (x == ("__classdict__" : Str)) = false := by decide) (hs : (e :: es).all noStar = true := by rfl) (hl : decide ((e :: es).length < 30) = true := by rfl) (hline : (apos.endLine == p1.line) = true := by rfl) :
    DS C (.Expr (.Call (.Attribute (.Name x p2) m apos) (e :: es) [] p1) pos) (sOwn i gs f) := fun X W ok tk => by
  have hx : PE X (.Name x p2) (tVar i) := pe_var (i := i) (by rw [ok.N]; exact hN) (by rw [ok.sc]; exact hv) hd hcd
  have hs2 : noStar e = true ∧ es.all noStar = true := by rw [List.all_cons, Bool.and_eq_true] at hs; exact hs
  refine psW (ps_expr (pe_bm PySem.F.plainAttrs_list slot hty (hm X ok) hx (ha X W ok tk) rfl (few_ok hs hl) hline (star_eq hs2.1) (star_none (e := e) hs2.2)) rfl) fun D σ H ⟨E, F, ρ, δ, st, A, S, P⟩ => ?_
  unfold sOwn at P
  cases q : ownL δ i with
  | none => rw [q] at P; exact P.elim
  | some ds =>
    rw [q] at P
    have q2 : ownAt δ i = some (.lst ds) := by
      unfold ownL at q
      split at q
      · cases q; assumption
      · cases q
    obtain ⟨v, h1, a, rfl, e2, e3, e4, xs, e5, e6⟩ := S.slot i _ (own_at q2)
    refine ⟨_, h1, .inl ⟨rfl, xs, .of e5⟩, E.H0, F, ρ, δ, st, S, PostS_bndA A P fun F' ρ' st' H' vs rs A' A2 S' R' P' => ?_⟩
    obtain ⟨v', h1', a', e1', e2', e3', e4', xs', e5', e6'⟩ := S'.slot i _ (own_at q2)
    rw [h1] at h1'; cases h1'; cases e1'
    cases q3 : allD rs with
    | none => rw [q3] at P'; exact P'.elim
    | some es' =>
      rw [q3] at P'
      have r3 := allD_ok R' q3
      cases q4 : f ds es' with
      | none => rw [show (some es').bind (f ds) = f ds es' from rfl, q4] at P'; exact P'.elim
      | some ds' =>
        rw [show (some es').bind (f ds) = f ds es' from rfl, q4] at P'
        refine mu _ F' ρ' ds es' ds' xs' vs a H' _ S'.fs e5' e6' r3 q4 fun ys ry => ?_
        obtain ⟨A3, S3⟩ := own_upd (c' := .lst ds') (o := .lst ys) A2 S' q2 h1 ⟨ys, upd_same, ry⟩
        exact P' σ ρ' F' _ A3 S3
/-- without arguments -/
theorem ds_own0 {r : V → List V → Hp → VK → Prop} (slot : Slot "list" m id) (hty : typeOf (.builtin id) = pure (.type "method_descriptor")) (hm : ∀ X, CtxOk C X → MtR X id r) (mu : MutL r f)
    (hN : C.N[i]? = some x) (hv : Vis C.sc x) (hd : (x == ("__debug__" : Str)) = false := by decide) (hcd : (x == ("__classdict__" : Str)) = false := by decide) (hline : (apos.endLine == p1.line) = true := by rfl) :
    DS C (.Expr (.Call (.Attribute (.Name x p2) m apos) [] [] p1) pos) (sOwn i gNil f) := fun X W ok tk => by
  have hx : PE X (.Name x p2) (tVar i) := pe_var (i := i) (by rw [ok.N]; exact hN) (by rw [ok.sc]; exact hv) hd hcd
  refine psW (ps_expr (pe_bm0 PySem.F.plainAttrs_list slot hty (hm X ok) hx rfl hline) rfl) fun D σ H ⟨E, F, ρ, δ, st, A, S, P⟩ => ?_
  unfold sOwn at P
  cases q : ownL δ i with
  | none => rw [q] at P; exact P.elim
  | some ds =>
    rw [q] at P
    have q2 : ownAt δ i = some (.lst ds) := by
      unfold ownL at q
      split at q
      · cases q; assumption
      · cases q
    obtain ⟨v, h1, a, rfl, e2, e3, e4, xs, e5, e6⟩ := S.slot i _ (own_at q2)
    refine ⟨_, h1, .inl ⟨rfl, xs, .of e5⟩, ?_⟩
    change PostS (xg X) W E (match f ds [] with
      | some ds' => some (.nx (δ.set i (some (.ow (.lst ds')))), st)
      | none => none) D at P
    cases q4 : f ds [] with
    | none => rw [q4] at P; exact P.elim
    | some ds' =>
      rw [q4] at P
      refine mu _ F ρ ds [] ds' xs [] a H _ S.fs e5 e6 .nil q4 fun ys ry => ?_
      obtain ⟨A3, S3⟩ := own_upd (c' := .lst ds') (o := .lst ys) A S q2 h1 ⟨ys, upd_same, ry⟩
      exact P σ ρ F _ A3 S3
/-! the list's methods -/
def fAppend (ds es : List D) : Option (List D) := match es with
  | [e] => if ds.length < LIM then some (ds ++ [e]) else none
  | _ => none
theorem mu_append : MutL rAppend fAppend := fun g F ρ ds es ds' xs vs a H Q hs h1 r1 r2 e q => by
  unfold fAppend at e
  split at e
  · split at e
    · rename_i hl
      cases e
      cases r2 with
      | cons k1 k2 =>
        cases k2
        exact ⟨a, xs, _, rfl, rfl, h1, by rw [← r1.length, lim_eq]; exact hl, q _ (r1.append (.cons k1 .nil))⟩
    · cases e
  · cases e
theorem ds_append (hN : C.N[i]? = some x) (hv : Vis C.sc x) (ha : DA C [e] gs) (hd : (x == ("__debug__" : Str)) = false := by decide) (hcd : (x == ("__classdict__" : Str)) = false := by decide) (hs : [e].all noStar = true := by rfl) (hline : (apos.endLine == p1.line) = true := by rfl) :
    DS C (.Expr (.Call (.Attribute (.Name x p2) "append" apos) [e] [] p1) pos) (sOwn i gs fAppend) :=
  ds_own PySem.F.slot_list_append PySem.F.type_list_append (fun X ok => mt_append) mu_append hN hv ha hd hcd hs rfl hline
def fInsert (ds es : List D) : Option (List D) := match es with
  | [.int k, e] => if ds.length < LIM ∧ 0 ≤ k ∧ k < 2 ^ 63 then some (ds.take k.toNat ++ [e] ++ ds.drop k.toNat) else none
  | _ => none
theorem mu_insert : MutL (fun x vs H Q => ∃ (l : Addr) (xs : List V) (i : Int) (y : V), x = .ref l ∧ vs = [.int i, y] ∧ H l = some (.lst xs) ∧ xs.length < sizeLine ∧ 0 ≤ i ∧ i < 2 ^ 63 ∧
    Q .non (upd H l (.lst (xs.take i.toNat ++ [y] ++ xs.drop i.toNat)))) fInsert := fun g F ρ ds es ds' xs vs a H Q hs h1 r1 r2 e q => by
  unfold fInsert at e
  split at e
  · rename_i k d
    split at e
    · rename_i hl
      cases e
      cases r2 with
      | cons k1 k2 =>
        cases k2 with
        | cons k3 k4 =>
          cases k4
          cases k1
          exact ⟨a, xs, k, _, rfl, rfl, h1, by rw [← r1.length, lim_eq]; exact hl.1, hl.2.1, hl.2.2, q _ (((r1.take _).append (.cons k3 .nil)).append (r1.drop _))⟩
    · cases e
  · cases e
theorem ds_insert {e2 : Expr} (hN : C.N[i]? = some x) (hv : Vis C.sc x) (ha : DA C [e, e2] gs) (hd : (x == ("__debug__" : Str)) = false := by decide) (hcd : (x == ("__classdict__" : Str)) = false := by decide) (hs : [e, e2].all noStar = true := by rfl) (hline : (apos.endLine == p1.line) = true := by rfl) :
    DS C (.Expr (.Call (.Attribute (.Name x p2) "insert" apos) [e, e2] [] p1) pos) (sOwn i gs fInsert) :=
  ds_own PySem.F.slot_list_insert PySem.F.type_list_insert (fun X ok => mt_insert) mu_insert hN hv ha hd hcd hs rfl hline
def fExtend (ds es : List D) : Option (List D) := match es with
  | [.lst fs] => if ds.length + fs.length ≤ LIM then some (ds ++ fs) else none
  | _ => none
theorem mu_extend : MutL rExtend fExtend := fun g F ρ ds es ds' xs vs a H Q hs h1 r1 r2 e q => by
  unfold fExtend at e
  split at e
  · split at e
    · rename_i hl
      cases e
      cases r2 with
      | cons k1 k2 =>
        cases k2
        obtain ⟨b, ws, rfl, h2, r3⟩ := Rep.lst_v k1
        exact ⟨a, b, xs, ws, rfl, rfl, h1, hs _ _ h2, by rw [← r1.length, ← r3.length, lim_eq]; exact hl, q _ (r1.append r3)⟩
    · cases e
  · cases e
theorem ds_extend (hN : C.N[i]? = some x) (hv : Vis C.sc x) (ha : DA C [e] gs) (hd : (x == ("__debug__" : Str)) = false := by decide) (hcd : (x == ("__classdict__" : Str)) = false := by decide) (hs : [e].all noStar = true := by rfl) (hline : (apos.endLine == p1.line) = true := by rfl) :
    DS C (.Expr (.Call (.Attribute (.Name x p2) "extend" apos) [e] [] p1) pos) (sOwn i gs fExtend) :=
  ds_own PySem.F.slot_list_extend PySem.F.type_list_extend (fun X ok => mt_extend) mu_extend hN hv ha hd hcd hs rfl hline
def fClear (_ es : List D) : Option (List D) := match es with
  | [] => some []
  | _ => none
theorem mu_clear : MutL rClear fClear := fun g F ρ ds es ds' xs vs a H Q hs h1 r1 r2 e q => by
  unfold fClear at e
  split at e
  · cases e
    cases r2
    exact ⟨a, xs, rfl, rfl, h1, q [] .nil⟩
  · cases e
theorem ds_clear (hN : C.N[i]? = some x) (hv : Vis C.sc x) (hd : (x == ("__debug__" : Str)) = false := by decide) (hcd : (x == ("__classdict__" : Str)) = false := by decide) (hline : (apos.endLine == p1.line) = true := by rfl) :
    DS C (.Expr (.Call (.Attribute (.Name x p2) "clear" apos) [] [] p1) pos) (sOwn i gNil fClear) :=
  ds_own0 PySem.F.slot_list_clear PySem.F.type_list_clear (fun X ok => mt_clear) mu_clear hN hv hd hcd hline
end

/-! ### x[k] = e, x[k] op= e of a list that slot i owns -/
def setIx (ds : List D) (k : Int) (d : D) : Option (List D) := (ixN ds.length k).map fun j => ds.set j d
/-- the value first, then the index -/
def sSub (i : Nat) (ga gk : DEnv → M Rv) : GS := fun δ => match ownL δ i with
  | some ds => sBnd (gFrz ga δ) δ fun r => sBnd (gk δ) δ fun rk st => match (match r with | .fz d => rk.asI.bind fun k => setIx ds k d | _ => none) with
    | some ds' => some (.nx (δ.set i (some (.ow (.lst ds')))), st)
    | none => none
  | none => fun _ => none
theorem ownL_at {δ : DEnv} {i : Nat} {ds : List D} (q : ownL δ i = some ds) : ownAt δ i = some (.lst ds) := by
  unfold ownL at q
  split at q
  · cases q; assumption
  · cases q
section
variable {C : Ctx} {e k : Expr} {ga gk : DEnv → M Rv} {pos p1 p2 : Pos} {i : Nat} {x : Str}
theorem swapsSole {t e : Expr} {l : Nat} {env : Env} (h : noComp e = true) : swapsWithSole [t] e l env = pure false := swaps_none h
/-- no tuple is exchanged -/
def noTup : Expr → Bool
  | .Tuple .. => false
  | .List .. => false
  | _ => true
theorem swapped_none {t e : Expr} {env : Env} (h : noTup t = true) : swappedStores [t] e env = pure none := by
  cases t <;> first | (cases h; done) | (cases e <;> rfl)
theorem ds_sub (hN : C.N[i]? = some x) (hv : Vis C.sc x) (ha : DE C e ga) (hk : DE C k gk) (hd : (x == ("__debug__" : Str)) = false := by decide) (hcd : (x == ("__classdict__" : Str)) = false := by decide) (hn : noComp e = true := by rfl)
    (has : ∀ (env : Env) v, assign (.Subscript (.Name x p1) k p2) env v = (do
      let ov ← holding [v] (eval (.Name x p1) env)
      let iv ← holding [v, ov] (eval k env)
      standAt p2
      holding [v, ov, iv] (setItem ov iv v)
      release [v, ov, iv] []) := by intro _ _; rfl) :
    DS C (.Assign [.Subscript (.Name x p1) k p2] e pos) (sSub i ga gk) := fun X W ok tk => by
  have hx : PE X (.Name x p1) (tVar i) := pe_var (i := i) (by rw [ok.N]; exact hN) (by rw [ok.sc]; exact hv) hd hcd
  refine psW (ps_asg (de_frz ha X W ok tk) (pg_sub hx (hk X W ok tk) set_list (has X.env)) (swapsSole hn) (swapped_none rfl)) fun D σ H ⟨E, F, ρ, δ, st, A, S, P⟩ => ?_
  unfold sSub at P
  cases q : ownL δ i with
  | none => rw [q] at P; exact P.elim
  | some ds =>
    rw [q] at P
    have q2 := ownL_at q
    refine ⟨E.H0, F, ρ, δ, st, S, PostS_bnd A P fun F1 ρ1 st1 H1 v r A1 A1' S1 R1 P1 => ?_⟩
    obtain ⟨v1, h1, a, rfl, _⟩ := S1.slot i _ (own_at q2)
    refine ⟨_, h1, E.H0, F1, ρ1, δ, st1, S1, PostS_bnd A1' P1 fun F2 ρ2 st2 H2 u rk A2 A2' S2 R2 P2 => ?_⟩
    obtain ⟨v', h1', a', e1', e2', e3', e4', xs', e5', e6'⟩ := S2.slot i _ (own_at q2)
    rw [h1] at h1'; cases h1'; cases e1'
    cases r with
    | ow c => exact P2.elim
    | vw j => exact P2.elim
    | fz d =>
      cases q3 : rk.asI with
      | none => dsimp only at P2; rw [q3] at P2; exact P2.elim
      | some z =>
        dsimp only at P2
        rw [q3] at P2
        change PostS (xg X) W E (match setIx ds z d with
          | some ds' => some (.nx (δ.set i (some (.ow (.lst ds')))), st2)
          | none => none) D at P2
        cases q4 : setIx ds z d with
        | none => rw [q4] at P2; exact P2.elim
        | some ds' =>
          rw [q4] at P2
          unfold setIx at q4
          cases q5 : ixN ds.length z with
          | none => rw [q5] at q4; cases q4
          | some j =>
            rw [q5] at q4; cases q4
            refine ⟨a, xs', z, j, rfl, asI_v R2 q3, e5', by rw [← e6'.length]; exact q5, ?_⟩
            have ry : Reps (xg X) F2 ρ2 (ds.set j d) (xs'.set j v) := Reps.set (Rep.mono A2.ff A2.ex R1) j e6'
            obtain ⟨A3, S3⟩ := own_upd (c' := .lst (ds.set j d)) (o := .lst (xs'.set j v)) A2' S2 q2 h1 ⟨_, upd_same, ry⟩
            exact P2 σ ρ2 F2 _ A3 S3
end
/-! ### x op= e -/
def sAug (i : Nat) (k : K2) (ga : DEnv → M Rv) : GS := fun δ => match δ[i]? with
  | some (some (.fz d)) => sBnd (bnd (ga δ) fun y => k δ (.fz d) y) δ fun r st => match setR i r δ with
    | some δ' => some (.nx δ', st)
    | none => none
  | _ => fun _ => none
section
variable {C : Ctx} {e : Expr} {ga : DEnv → M Rv} {pos p1 : Pos} {i : Nat} {x : Str}
theorem ds_aug {op : Operator} {k : K2} (ho : IpK C op k) (hN : C.N[i]? = some x) (hx : Stor C x) (ha : DE C e ga) : DS C (.AugAssign (.Name x p1) op e pos) (sAug i k ga) := fun X W ok tk => by
  obtain ⟨r, h1, h2⟩ := ho X ok
  refine psW (ps_aug (i := i) (by rw [ok.N]; exact ok.nd) (by rw [ok.N]; exact hN) (ok.loc hx) (ha X W ok tk) h1 (ok.fn hx)) fun D σ H ⟨E, F, ρ, δ, st, A, S, P⟩ => ?_
  unfold sAug at P
  match q : δ[i]?, P with
  | some (some (.fz d)), P =>
    obtain ⟨v, e1, e2⟩ := S.slot i _ q
    have P1 : PostE (xg X) W E.H0 F ρ δ σ H (bnd (ga δ) (fun y => k δ (.fz d) y) st) (fun z H' => D.nx (σ.set i (some z)) H') := PostS_bnd A P fun F' ρ' st' H' v r A' A2 S' R' P' => by
      cases q : setR i r δ with
      | none => rw [q] at P'; exact P'.elim
      | some δ' =>
        rw [q] at P'
        exact P' (σ.set i (some v)) ρ' F' H' A2 (set_ok (fun _ _ => A.a) S A' S' R' q)
    refine ⟨v, e1, E.H0, F, ρ, δ, st, S, PostE_bnd P1 fun F' ρ' st' H' u y A' S' R' P' => ?_⟩
    exact h2 W E.H0 F' ρ' δ st' σ H' H H (.fz d) y v u _ S' (Rep.mono A'.ff A'.ex e2) R' P'
  | some (some (.ow _)), P => exact P.elim
  | some none, P => exact P.elim
  | none, P => exact P.elim
theorem ip_add : IpK C .Add (kOr kAddI kAddS isII) := fun X ok => ⟨_, iop_add.or iop_add_str, fun W H0 F ρ δ st σ H Hs Ht x y v u Q S R R' P => by
  unfold kOr at P
  split at P
  · exact .inl (kI_ok (X := X) (fun W H0 F ρ δ st σ H i j Q S P => ⟨i, j, rfl, rfl, pI S P⟩) W H0 F ρ δ st σ H Hs Ht x y v u Q S R R' P)
  · obtain ⟨r, h1, h2⟩ := ok_addS (C := C) X ok
    refine .inr ?_
    unfold kAddS at P
    obtain ⟨s, e1, P⟩ := opt_ok P
    obtain ⟨t, e2, P⟩ := opt_ok P
    split at P
    · rename_i h
      refine ⟨_, _, asS_v R e1, asS_v R' e2, by rw [len_mk, len_mk, lim_eq]; exact h, ?_⟩
      rw [app_str]
      exact pS S P
    · exact P.elim⟩
theorem ip_sub : IpK C .Sub kSub := fun X ok => ⟨_, iop_sub, kI_ok fun W H0 F ρ δ st σ H i j Q S P => ⟨i, j, rfl, rfl, pI S P⟩⟩
theorem ip_mul : IpK C .Mult (kI fun i j => if decide (-(2 ^ 64) < i ∧ i < 2 ^ 64) || decide (-(2 ^ 64) < j ∧ j < 2 ^ 64) then riv (i * j) else fail) := fun X ok => ⟨_, iop_mul, kI_ok fun W H0 F ρ δ st σ H i j Q S P => by
  split at P
  · rename_i h
    simp only [Bool.or_eq_true, decide_eq_true_eq] at h
    exact ⟨i, j, rfl, rfl, h, pI S P⟩
  · exact P.elim⟩
end
end DL

/-! DL8: targets, what is walked, for. -/
namespace DL
open PySem PySem.Spec PyProof.Rows L2 TL
set_option autoImplicit false

/-! ### targets -/
abbrev GT := D → DEnv → Option DEnv
/-- two slots' states that differ at T alone -/
def Off (T : List Nat) (σ σ' : L2.St) : Prop := σ'.length = σ.length ∧ ∀ i : Nat, i ∉ T → σ'[i]? = σ[i]?
def rdG (g : GG) (gt : GT) (T : List Nat) : TG := fun v σ H Q => ∃ H0 F ρ δ st d, St0 g H0 F ρ δ st σ H ∧ Rep g F ρ d v ∧ match gt d δ with
  | none => False
  | some δ' => ∀ σ', Off T σ σ' → St0 g H0 F ρ δ' st σ' H → Q σ' H
abbrev GTs := List D → DEnv → Option DEnv
def rdGs (g : GG) (gt : GTs) (T : List Nat) : TGs := fun vs σ H Q => ∃ H0 F ρ δ st ds, St0 g H0 F ρ δ st σ H ∧ Reps g F ρ ds vs ∧ match gt ds δ with
  | none => False
  | some δ' => ∀ σ', Off T σ σ' → St0 g H0 F ρ δ' st σ' H → Q σ' H
def DG (C : Ctx) (t : Expr) (gt : GT) (T : List Nat) : Prop := ∀ X W, CtxOk C X → Takes X W → PG X t (rdG (xg X) gt T)
def DGs (C : Ctx) (ts : List Expr) (gt : GTs) (T : List Nat) : Prop := ∀ X W, CtxOk C X → Takes X W → PGs X ts (rdGs (xg X) gt T)
theorem pgW {X : Cx} {e : Expr} {t t' : TG} (p : PG X e t) (h : ∀ v σ H Q, t' v σ H Q → t v σ H Q) : PG X e t' := ⟨fun pins s σ H v u Q I r q => p.run pins s σ H v u Q I r (h _ _ _ _ q)⟩
theorem pgsW {X : Cx} {e : List Expr} {t t' : TGs} (p : PGs X e t) (h : ∀ v σ H Q, t' v σ H Q → t v σ H Q) : PGs X e t' := ⟨fun pins s σ H v u Q I r q => p.run pins s σ H v u Q I r (h _ _ _ _ q)⟩
theorem pg_or {X : Cx} {e : Expr} {t t' : TG} (p : PG X e t) (p' : PG X e t') : PG X e (fun v σ H Q => t v σ H Q ∨ t' v σ H Q) := ⟨fun pins s σ H v u Q I r q => by
  rcases q with q | q
  · exact p.run pins s σ H v u Q I r q
  · exact p'.run pins s σ H v u Q I r q⟩
def tName (i : Nat) : GT := fun d δ => some (δ.set i (some (.fz d)))
def tsNil : GTs := fun ds δ => match ds with
  | [] => some δ
  | _ => none
def tsCons (t : GT) (ts : GTs) : GTs := fun ds δ => match ds with
  | d :: ds => (t d δ).bind (ts ds)
  | [] => none
def tTupD (n : Nat) (ts : GTs) : GT := fun d δ => match d with
  | .tup ds => if ds.length = n then ts ds δ else none
  | .lst ds => if ds.length = n then ts ds δ else none
  | _ => none
/-- no star among targets -/
def noStarT : Expr → Bool
  | .Starred .. => false
  | _ => true
section
variable {C : Ctx} {e : Expr} {es : List Expr} {t : GT} {ts : GTs} {pos : Pos} {i n k : Nat} {x : Str} {T T' : List Nat}
theorem dg_name (hi : C.N[i]? = some x) (hx : Stor C x) : DG C (.Name x pos) (tName i) [i] := fun X W ok tk => by
  refine pgW (pg_name (i := i) (by rw [ok.N]; exact ok.nd) (by rw [ok.N]; exact hi) (ok.loc hx) (ok.fn hx)) fun v σ H Q ⟨H0, F, ρ, δ, st, d, S, R, P⟩ => ?_
  exact P _ ⟨by rw [List.length_set], fun j hj => List.getElem?_set_ne fun z => hj (by simp [z])⟩ (set_ok (r := .fz d) (ρ0 := ρ) (F0 := F) (fun c z => nomatch z) S .refl S R rfl)
theorem dgs_nil : DGs C [] tsNil [] := fun X W ok tk => by
  refine pgsW pgs_nil fun vs σ H Q ⟨H0, F, ρ, δ, st, ds, S, R, P⟩ => ?_
  cases R with
  | nil => exact ⟨rfl, P σ ⟨rfl, fun _ _ => rfl⟩ S⟩
  | cons r t => exact P.elim
theorem assign_cons {e : Expr} {es : List Expr} {env : Env} (h : noStarT e = true) : (assignEach (e :: es) env).map (·.2) = assign e env :: (assignEach es env).map (·.2) := by
  cases e <;> first | rfl | cases h
theorem dgs_cons (h1 : DG C e t T) (h2 : DGs C es ts T') (hn : noStarT e = true := by rfl) : DGs C (e :: es) (tsCons t ts) (T ++ T') := fun X W ok tk => by
  refine pgsW (pgs_cons (h1 X W ok tk) (h2 X W ok tk) (assign_cons hn)) fun vs σ H Q ⟨H0, F, ρ, δ, st, ds, S, R, P⟩ => ?_
  cases R with
  | nil => exact P.elim
  | @cons d v ds vs r rs =>
    refine ⟨v, vs, rfl, H0, F, ρ, δ, st, d, S, r, ?_⟩
    change (match (t d δ).bind (ts ds) with
      | none => False
      | some δ' => ∀ σ', Off (T ++ T') σ σ' → St0 (xg X) H0 F ρ δ' st σ' H → Q σ' H) at P
    cases q : t d δ with
    | none => rw [q] at P; exact P.elim
    | some δ1 =>
      rw [q] at P
      refine fun σ' o' S' => ⟨H0, F, ρ, δ1, st, ds, S', rs, ?_⟩
      cases q2 : ts ds δ1 with
      | none => change (match ts ds δ1 with | none => False | some δ' => _) at P; rw [q2] at P; exact P.elim
      | some δ2 =>
        change (match ts ds δ1 with | none => False | some δ' => _) at P
        rw [q2] at P
        exact fun σ2 o2 S2 => P σ2 ⟨o2.1.trans o'.1, fun j hj => (o2.2 j fun z => hj (List.mem_append_right _ z)).trans (o'.2 j fun z => hj (List.mem_append_left _ z))⟩ S2
theorem dg_tup (h : DGs C es ts T) (hn : ∀ env : Env, (assignEach es env).length = n := by intro _; rfl) (hst : ∀ env : Env, (assignEach es env).findIdx? (·.1) = none := by intro _; rfl) (hh : C.hot = false := by rfl) : DG C (.Tuple es k pos) (tTupD n ts) T := fun X W ok tk => by
  refine pgW (pg_or (pg_tup (ok.calm hh) (h X W ok tk) (hn _) (hst _)) (pg_lst (ok.calm hh) (h X W ok tk) (hn _) (hst _))) fun v σ H Q ⟨H0, F, ρ, δ, st, d, S, R, P⟩ => ?_
  match d, R, P with
  | .tup ds, R, P =>
    obtain ⟨a, vs, rfl, h1, h2⟩ := Rep.tup_v R
    unfold tTupD at P
    dsimp only at P
    by_cases hl : ds.length = n
    · rw [if_pos hl] at P
      exact .inl ⟨a, vs, rfl, Same.sqT S.fs h1, by rw [← h2.length]; exact hl, H0, F, ρ, δ, st, ds, S, h2, P⟩
    · rw [if_neg hl] at P; exact P.elim
  | .lst ds, R, P =>
    obtain ⟨a, vs, rfl, h1, h2⟩ := Rep.lst_v R
    unfold tTupD at P
    dsimp only at P
    by_cases hl : ds.length = n
    · rw [if_pos hl] at P
      exact .inr ⟨a, vs, rfl, .of (S.fs _ _ h1), by rw [← h2.length]; exact hl, H0, F, ρ, δ, st, ds, S, h2, P⟩
    · rw [if_neg hl] at P; exact P.elim
  | .non, _, P => exact P.elim
  | .bl _, _, P => exact P.elim
  | .int _, _, P => exact P.elim
  | .str _, _, P => exact P.elim
  | .rol _, _, P => exact P.elim
  | .obj _ _, _, P => exact P.elim
  | .dk _, _, P => exact P.elim
  | .dt _, _, P => exact P.elim
  | .loc _, _, P => exact P.elim
  | .ty _, _, P => exact P.elim
  | .exc _ _, _, P => exact P.elim
  | .tab _ _, _, P => exact P.elim
end
/-- target = value, by a target -/
def sAsgT (t : GT) (ga : DEnv → M Rv) : GS := fun δ => sBnd (gFrz ga δ) δ fun r st => match r with
  | .fz d => (match t d δ with
    | some δ' => some (.nx δ', st)
    | none => none)
  | _ => none
section
variable {C : Ctx} {e tg : Expr} {ga : DEnv → M Rv} {t : GT} {pos : Pos} {T : List Nat}
theorem ds_asgT (ha : DE C e ga) (hg : DG C tg t T) (hn : noComp e = true := by rfl) (hw : ∀ env : Env, swappedStores [tg] e env = pure none := by intro _; rfl) (hs : noStarT tg = true := by rfl) : DS C (.Assign [tg] e pos) (sAsgT t ga) := fun X W ok tk => by
  refine psW (ps_asg (de_frz ha X W ok tk) (hg X W ok tk) (swapsSole hn) (hw _) (assign_cons hs)) fun D σ H ⟨E, F, ρ, δ, st, A, S, P⟩ => ?_
  refine ⟨E.H0, F, ρ, δ, st, S, PostS_bnd A P fun F1 ρ1 st1 H1 v r A1 A1' S1 R1 P1 => ?_⟩
  cases r with
  | ow c => exact P1.elim
  | vw j => exact P1.elim
  | fz d =>
    refine ⟨E.H0, F1, ρ1, δ, st1, d, S1, R1, ?_⟩
    cases q : t d δ with
    | none => dsimp only at P1; rw [q] at P1; exact P1.elim
    | some δ' =>
      dsimp only at P1; rw [q] at P1
      exact fun σ' _ S' => P1 σ' ρ1 F1 H1 A1' S'
end

/-! ### what is walked -/
/-- the items of a walk, whatever happens meanwhile -/
structure ItD (g : GG) (J : It) (ds : List D) (F : Hp) (ρ : List Addr) : Prop where
  stop : ∀ {F' ρ' H'} {i : Nat}, Same F F' → (∃ l, ρ' = ρ ++ l) → Same F' H' → ds.length ≤ i → J.stop i H'
  go : ∀ {F' ρ' H'} {i : Nat}, Same F F' → (∃ l, ρ' = ρ ++ l) → Same F' H' → i < ds.length → J.go i H'
  yld : ∀ {F' ρ' H' H'' x d} {i : Nat}, Same F F' → (∃ l, ρ' = ρ ++ l) → Same F' H' → ds[i]? = some d → J.yld i H' x H'' → ∃ F'', Ext F' H' F'' H'' ∧ Rep g F'' ρ' d x
def PostI (g : GG) (W : WX) (H0 F : Hp) (ρ : List Addr) (δ : DEnv) (σ : L2.St) (H : Hp) (o : Option (Res (List D) × Sto)) (R : It → Hp → Prop) : Prop := match o with
  | none => False
  | some (.ok ds, st') => ∀ J ρ' F' H', After ρ F H ρ' F' H' → St0 g H0 F' ρ' δ st' σ H' → ItD g J ds F' ρ' → R J H'
  | some (.ex x, st') => ∀ c d ρ' F' H', After ρ F H ρ' F' H' → St0 g H0 F' ρ' δ st' σ H' → RepX g F' ρ' H' x c d → W c d σ H'
def rdI (g : GG) (W : WX) (ge : DEnv → M (List D)) : TI := fun σ H R => ∃ H0 F ρ δ st, St0 g H0 F ρ δ st σ H ∧ PostI g W H0 F ρ δ σ H (ge δ st) R
def DI (C : Ctx) (tg e : Expr) (ge : DEnv → M (List D)) : Prop := ∀ X W, CtxOk C X → Takes X W → PI X tg e (rdI (xg X) W ge)
theorem piW {X : Cx} {tg e : Expr} {t t' : TI} (p : PI X tg e t) (h : ∀ σ H R, t' σ H R → t σ H R) : PI X tg e t' := ⟨fun pins s σ H R I q => p.run pins s σ H R I (h _ _ _ q)⟩
theorem pi_or {X : Cx} {tg e : Expr} {t t' : TI} (p : PI X tg e t) (p' : PI X tg e t') : PI X tg e (fun σ H R => t σ H R ∨ t' σ H R) := ⟨fun pins s σ H R I q => by
  rcases q with q | q
  · exact p.run pins s σ H R I q
  · exact p'.run pins s σ H R I q⟩
theorem PostI_bnd {g : GG} {W : WX} {H0 F H : Hp} {ρ : List Addr} {δ : DEnv} {σ : L2.St} {st : Sto} {m : M Rv} {k : Rv → M (List D)} {R : It → Hp → Prop} {T : V → Hp → Prop} (P : PostI g W H0 F ρ δ σ H (bnd m k st) R)
    (hk : ∀ F' ρ' st' H' v r, After ρ F H ρ' F' H' → St0 g H0 F' ρ' δ st' σ H' → RepR g F' ρ' δ σ H H' r v → PostI g W H0 F ρ δ σ H (k r st') R → T v H') : PostE g W H0 F ρ δ σ H (m st) T := by
  unfold bnd at P
  match e : m st, P with
  | none, P => exact P
  | some (.ok r, st'), P => exact fun v ρ' F' H' A' S' R' => hk F' ρ' st' H' v r A' S' R' P
  | some (.ex x, st'), P => exact P
theorem PostI_bndA {g : GG} {W : WX} {H0 F H : Hp} {ρ : List Addr} {δ : DEnv} {σ : L2.St} {st : Sto} {m : M (List Rv)} {k : List Rv → M (List D)} {R : It → Hp → Prop} {T : List V → Hp → Prop} (P : PostI g W H0 F ρ δ σ H (bnd m k st) R)
    (hk : ∀ F' ρ' st' H' vs rs, After ρ F H ρ' F' H' → St0 g H0 F' ρ' δ st' σ H' → RepRs g F' ρ' δ σ H H' rs vs → PostI g W H0 F ρ δ σ H (k rs st') R → T vs H') : PostA g W H0 F ρ δ σ H (m st) T := by
  unfold bnd at P
  match e : m st, P with
  | none, P => exact P
  | some (.ok r, st'), P => exact fun v ρ' F' H' A' S' R' => hk F' ρ' st' H' v r A' S' R' P
  | some (.ex x, st'), P => exact P
/-- the items of a frozen list, tuple, text -/
def Rv.items : Rv → Option (List D)
  | .fz (.lst ds) => some ds
  | .fz (.rol ds) => some ds
  | .fz (.tup ds) => some ds
  | .fz (.str s) => some (s.map fun c => .str [c])
  | _ => none
def gItems (ga : DEnv → M Rv) : DEnv → M (List D) := fun δ => bnd (gFrz ga δ) fun r => opt r.items fun ds => ret ds
section
variable {g : GG} {F : Hp} {ρ : List Addr} {a : Addr} {vs : List V} {ds : List D}
theorem itd_list (h : SqL g.K F a vs) (r : Reps g F ρ ds vs) : ItD g (Itl g.K a) ds F ρ := by
  refine ⟨fun {F' ρ' H' i} e p s hi => ⟨vs, Same.seq s (Same.seq e h), by rw [← r.length]; exact hi⟩, fun {F' ρ' H' i} e p s hi => ?_, fun {F' ρ' H' H'' x d i} e p s hd hy => ?_⟩
  · obtain ⟨v, h1, _⟩ := r.get (List.getElem?_eq_getElem hi)
    exact ⟨vs, v, Same.seq s (Same.seq e h), h1⟩
  · obtain ⟨rfl, hx⟩ := hy
    obtain ⟨v, h1, h2⟩ := r.get hd
    have := hx vs (Same.seq s (Same.seq e h))
    rw [h1] at this; cases this
    exact ⟨F', Ext.refl s, h2.mono e p⟩
theorem itd_tup (h : SqT g.K F a vs) (r : Reps g F ρ ds vs) : ItD g (Itt g.K a) ds F ρ := by
  refine ⟨fun {F' ρ' H' i} e p s hi => ⟨vs, Same.sqT s (Same.sqT e h), by rw [← r.length]; exact hi⟩, fun {F' ρ' H' i} e p s hi => ?_, fun {F' ρ' H' H'' x d i} e p s hd hy => ?_⟩
  · obtain ⟨v, h1, _⟩ := r.get (List.getElem?_eq_getElem hi)
    exact ⟨vs, v, Same.sqT s (Same.sqT e h), h1⟩
  · obtain ⟨rfl, hx⟩ := hy
    obtain ⟨v, h1, h2⟩ := r.get hd
    have := hx vs (Same.sqT s (Same.sqT e h))
    rw [h1] at this; cases this
    exact ⟨F', Ext.refl s, h2.mono e p⟩
theorem itd_str {s : List Nat} : ItD g (Its ⟨s.toArray⟩) (s.map fun c => .str [c]) F ρ := by
  have hz : ∀ i : Nat, (⟨s.toArray⟩ : Str).cps[i]? = s[i]? := fun i => by simp
  have hl : (⟨s.toArray⟩ : Str).cps.size = s.length := by simp
  refine ⟨fun {F' ρ' H' i} e p q hi => by (show (⟨s.toArray⟩ : Str).cps.size ≤ i); rw [hl]; simpa using hi, fun {F' ρ' H' i} e p q hi => by (show i < (⟨s.toArray⟩ : Str).cps.size); rw [hl]; simpa using hi, fun {F' ρ' H' H'' x d i} e p q hd hy => ?_⟩
  obtain ⟨rfl, c, h1, rfl⟩ := hy
  rw [hz] at h1
  rw [List.getElem?_map, h1] at hd
  cases hd
  exact ⟨F', Ext.refl q, .str⟩
end
section
variable {C : Ctx} {e tg : Expr} {ga : DEnv → M Rv} {pos p : Pos}
theorem di_any (h : DE C e ga) : DI C tg e (gItems ga) := fun X W ok tk => by
  refine piW (pi_or (pi_list (de_frz h X W ok tk)) (pi_or (pi_tup (de_frz h X W ok tk)) (pi_str (de_frz h X W ok tk)))) fun σ H R ⟨H0, F, ρ, δ, st, S, P⟩ => ?_
  unfold gItems at P
  cases q : gFrz ga δ st with
  | none => unfold bnd at P; rw [q] at P; exact P.elim
  | some o =>
    obtain ⟨o, st'⟩ := o
    cases o with
    | ex x =>
      unfold bnd at P; rw [q] at P
      exact .inl ⟨H0, F, ρ, δ, st, S, by rw [q]; exact P⟩
    | ok r =>
      have P0 := P
      unfold bnd at P0; rw [q] at P0
      match r, P0 with
      | .fz (.lst ds), P0 =>
        refine .inl ⟨H0, F, ρ, δ, st, S, ?_⟩
        rw [q]
        intro v ρ' F' H' A' S' R'
        obtain ⟨a, vs, rfl, h1, h2⟩ := Rep.lst_v R'
        exact ⟨a, rfl, ⟨vs, .of (S'.fs _ _ h1)⟩, P0 _ ρ' F' H' A' S' (itd_list (.of h1) h2)⟩
      | .fz (.rol ds), P0 =>
        refine .inl ⟨H0, F, ρ, δ, st, S, ?_⟩
        rw [q]
        intro v ρ' F' H' A' S' R'
        cases R' with
        | rol h1 h2 => exact ⟨_, rfl, ⟨_, Same.seq S'.fs h1⟩, P0 _ ρ' F' H' A' S' (itd_list h1 h2)⟩
      | .fz (.tup ds), P0 =>
        refine .inr (.inl ⟨H0, F, ρ, δ, st, S, ?_⟩)
        rw [q]
        intro v ρ' F' H' A' S' R'
        obtain ⟨a, vs, rfl, h1, h2⟩ := Rep.tup_v R'
        exact ⟨a, rfl, ⟨vs, Same.sqT S'.fs h1⟩, P0 _ ρ' F' H' A' S' (itd_tup h1 h2)⟩
      | .fz (.str s), P0 =>
        refine .inr (.inr ⟨H0, F, ρ, δ, st, S, ?_⟩)
        rw [q]
        intro v ρ' F' H' A' S' R'
        exact ⟨_, Rep.str_v R', P0 _ ρ' F' H' A' S' itd_str⟩
      | .ow _, P0 => exact P0.elim
      | .vw _, P0 => exact P0.elim
      | .fz .non, P0 => exact P0.elim
      | .fz (.bl _), P0 => exact P0.elim
      | .fz (.int _), P0 => exact P0.elim
      | .fz (.obj _ _), P0 => exact P0.elim
      | .fz (.dk _), P0 => exact P0.elim
      | .fz (.dt _), P0 => exact P0.elim
      | .fz (.loc _), P0 => exact P0.elim
      | .fz (.ty _), P0 => exact P0.elim
      | .fz (.exc _ _), P0 => exact P0.elim
      | .fz (.tab _ _), P0 => exact P0.elim
/-! ranges -/
def rangeD (lo : Int) (n : Nat) : List D := (List.range n).map fun (i : Nat) => .int (lo + i)
theorem itd_range {g : GG} {F : Hp} {ρ : List Addr} {lo : Int} {n : Nat} : ItD g (Itr lo n) (rangeD lo n) F ρ := by
  have hl : (rangeD lo n).length = n := by simp [rangeD]
  refine ⟨fun {F' ρ' H' i} e p q hi => by (show n ≤ i); rw [← hl]; exact hi, fun {F' ρ' H' i} e p q hi => by (show i < n); rw [← hl]; exact hi, fun {F' ρ' H' H'' x d i} e p q hd hy => ?_⟩
  obtain ⟨rfl, rfl⟩ := hy
  have hi : i < n := by rw [← hl]; exact (List.getElem?_eq_some_iff.mp hd).1
  unfold rangeD at hd
  rw [List.getElem?_map, List.getElem?_range hi] at hd
  cases hd
  exact ⟨F', Ext.refl q, .int⟩
def okR (j : Int) : Bool := decide (-(2 ^ 62) ≤ j ∧ j < 2 ^ 62)
def gRange1 (gs : DEnv → M (List Rv)) : DEnv → M (List D) := fun δ => bnd (gs δ) fun rs => match rs with
  | [r] => opt r.asI fun j => if okR j then ret (rangeD 0 j.toNat) else fail
  | _ => fail
def gRange2 (gs : DEnv → M (List Rv)) : DEnv → M (List D) := fun δ => bnd (gs δ) fun rs => match rs with
  | [r, r'] => opt r.asI fun i => opt r'.asI fun j => if okR i && okR j then ret (rangeD i (j - i).toNat) else fail
  | _ => fail
variable {gs : DEnv → M (List Rv)} {a b : Expr}
theorem optI_ok {α : Type} {a : Option α} {f : α → M (List D)} {g : GG} {W : WX} {H0 F H : Hp} {ρ : List Addr} {δ : DEnv} {st : Sto} {σ : L2.St} {R : It → Hp → Prop} (P : PostI g W H0 F ρ δ σ H (opt a f st) R) : ∃ i, a = some i ∧ PostI g W H0 F ρ δ σ H (f i st) R := by
  cases a with
  | none => exact P.elim
  | some i => exact ⟨i, rfl, P⟩
theorem di_range1 (hg : Glo C "range") (hm : C.mg "range" = none) (ha : DA C [a] gs) (hn : noStar a = true := by rfl) : DI C tg (.Call (.Name "range" p) [a] [] pos) (gRange1 gs) := fun X W ok tk => by
  refine piW (pi_range1 (ok.glo hg) (by rw [ok.mg]; exact hm) (ha X W ok tk) (star_eq hn)) fun σ H R ⟨H0, F, ρ, δ, st, S, P⟩ => ?_
  refine ⟨H0, F, ρ, δ, st, S, PostI_bndA P fun F' ρ' st' H' vs rs A' S' R' P' => ?_⟩
  match rs, R', P' with
  | [r], R', P' =>
    obtain ⟨v, rfl, R1⟩ := R'.one
    obtain ⟨j, e, P2⟩ := optI_ok P'
    by_cases hj : okR j = true
    · rw [if_pos hj] at P2
      have hj2 := hj
      unfold okR at hj2
      simp only [decide_eq_true_eq] at hj2
      exact ⟨j, by rw [asI_v R1 e], hj2.1, hj2.2, P2 _ ρ' F' H' A' S' itd_range⟩
    · rw [if_neg hj] at P2; exact P2.elim
  | [], _, P' => exact P'.elim
  | _ :: _ :: _, _, P' => exact P'.elim
theorem di_range2 (hg : Glo C "range") (hm : C.mg "range" = none) (ha : DA C [a, b] gs) (hn : noStar a = true := by rfl) (hn2 : noStar b = true := by rfl) : DI C tg (.Call (.Name "range" p) [a, b] [] pos) (gRange2 gs) := fun X W ok tk => by
  refine piW (pi_range2 (ok.glo hg) (by rw [ok.mg]; exact hm) (ha X W ok tk) (by rw [star_eq hn, star_eq hn2] <;> rfl) (by rw [star_eq hn2] <;> rfl)) fun σ H R ⟨H0, F, ρ, δ, st, S, P⟩ => ?_
  refine ⟨H0, F, ρ, δ, st, S, PostI_bndA P fun F' ρ' st' H' vs rs A' S' R' P' => ?_⟩
  match rs, R', P' with
  | [r, r'], R', P' =>
    obtain ⟨v, u, rfl, R1, R2⟩ := R'.two
    obtain ⟨i, e1, P2⟩ := optI_ok P'
    obtain ⟨j, e2, P3⟩ := optI_ok P2
    by_cases hj : (okR i && okR j) = true
    · rw [if_pos hj] at P3
      have hj2 := hj
      unfold okR at hj2
      simp only [Bool.and_eq_true, decide_eq_true_eq] at hj2
      exact ⟨i, j, by rw [asI_v R1 e1, asI_v R2 e2], ⟨hj2.1.1, hj2.1.2, hj2.2.1, hj2.2.2⟩, P3 _ ρ' F' H' A' S' itd_range⟩
    · rw [if_neg hj] at P3; exact P3.elim
  | [], _, P' => exact P'.elim
  | [_], _, P' => exact P'.elim
  | _ :: _ :: _ :: _, _, P' => exact P'.elim
end

/-! ### for -/
def forG (t : GT) (body : GS) : List D → GS
  | [] => fun δ st => some (.nx δ, st)
  | d :: ds => fun δ st => match t d δ with
    | none => none
    | some δ1 => match body δ1 st with
      | some (.nx δ2, st2) => forG t body ds δ2 st2
      | some (.ct δ2, st2) => forG t body ds δ2 st2
      | some (.bk δ2, st2) => some (.nx δ2, st2)
      | o => o
def sFor (gi : DEnv → M (List D)) (t : GT) (body : GS) : GS := fun δ => sBnd (gi δ) δ fun ds st => forG t body ds δ st
theorem PostS_bndI {g : GG} {W : WX} {E : En} {F H : Hp} {ρ : List Addr} {δ : DEnv} {σ : L2.St} {st : Sto} {De : Ends} {m : M (List D)} {k : List D → Sto → Option (Fl × Sto)} {R : It → Hp → Prop} (A : Lat E ρ F H) (P : PostS g W E (sBnd m δ k st) De)
    (hk : ∀ J F' ρ' st' H' ds, Lat E ρ' F' H' → St0 g E.H0 F' ρ' δ st' σ H' → ItD g J ds F' ρ' → PostS g W E (k ds st') De → R J H') : PostI g W E.H0 F ρ δ σ H (m st) R := by
  unfold sBnd at P
  match e : m st, P with
  | none, P => exact P
  | some (.ok r, st'), P => exact fun J ρ' F' H' A' S' R' => hk J F' ρ' st' H' r (A.step A') S' R' P
  | some (.ex x, st'), P => exact fun c d ρ' F' H' A' S' R' => P c d σ ρ' F' H' (A.step A') S' R'
section
variable {C : Ctx} {e tg : Expr} {gi : DEnv → M (List D)} {t : GT} {body : GS} {sb : List Stmt} {pos : Pos} {T : List Nat}
/-- the state of a loop's turn -/
def LoopAt (g : GG) (W : WX) (E Eb : En) (t : GT) (body : GS) (ds : List D) (De : Ends) (i : Nat) (σ : L2.St) (H : Hp) : Prop :=
  ∃ F ρ δ st, Lat Eb ρ F H ∧ St0 g E.H0 F ρ δ st σ H ∧ PostS g W E (forG t body (ds.drop i) δ st) De
/-- a loop's base -/
def En.at (E : En) (F : Hp) (ρ : List Addr) : En := { E with Fb := F, ρb := ρ }
theorem Lat.base {E : En} {ρ ρ' : List Addr} {F F' H H' : Hp} (l : Lat E ρ F H) (l' : Lat (E.at F ρ) ρ' F' H') : Lat E ρ' F' H' := by
  refine ⟨l'.a, l.b.trans l'.b, ?_⟩
  obtain ⟨x, hx⟩ := l.p
  obtain ⟨y, hy⟩ := l'.p
  exact ⟨x ++ y, by rw [hy]; show ρ ++ y = _; rw [hx, List.append_assoc]⟩
theorem ds_for (hi : DI C tg e gi) (hg : DG C tg t T) (hb : DSs C sb body) (hs : ∀ (env : Env) x, foldedSetIterable e env x = pure x := by intro _ _; rfl) (hh : C.hot = false := by rfl) : DS C (.For tg e sb [] pos) (sFor gi t body) := fun X W ok tk => by
  refine psW (ps_for ok.pown (ok.calm hh) (hi X W ok tk) (hg X W ok tk) (hb X W ok tk) (hs _)) fun De σ H ⟨E, F, ρ, δ, st, A, S, P⟩ => ?_
  refine ⟨E.H0, F, ρ, δ, st, S, PostS_bndI A P fun J F1 ρ1 st1 H1 ds A1 S1 I1 P1 => ?_⟩
  refine ⟨fun i m σ H => m = ds.length - i ∧ i ≤ ds.length ∧ LoopAt (xg X) W E (E.at F1 ρ1) t body ds De i σ H, ⟨ds.length, by simp, Nat.zero_le _, F1, ρ1, δ, st1, ⟨A1.a, Same.refl _, ⟨[], by simp [En.at]⟩⟩, S1, P1⟩, ?_⟩
  rintro i m σ2 H2 ⟨rfl, hi, F2, ρ2, δ2, st2, A2, S2, P2⟩
  have e2 : Same F1 F2 := A2.b
  have p2 : ∃ l, ρ2 = ρ1 ++ l := A2.p
  by_cases hlt : i < ds.length
  · refine .inr ⟨I1.go e2 p2 S2.fs hlt, LoopAt (xg X) W E (E.at F1 ρ1) t body ds De (i + 1), fun σ' H' h' => ⟨ds.length - (i + 1), by omega, rfl, hlt, h'⟩, fun x H3 hy => ?_⟩
    have hd : ds.drop i = ds[i] :: ds.drop (i + 1) := List.drop_eq_getElem_cons hlt
    rw [hd] at P2
    obtain ⟨F3, x3, r3⟩ := I1.yld e2 p2 S2.fs (List.getElem?_eq_getElem hlt) hy
    have S3 := S2.ext x3
    have A3 := A2.step x3.after
    unfold forG at P2
    refine ⟨E.H0, F3, ρ2, δ2, st2, ds[i], S3, r3, ?_⟩
    cases q : t ds[i] δ2 with
    | none => rw [q] at P2; exact P2.elim
    | some δ3 =>
      rw [q] at P2
      intro σ3 _ S4
      refine ⟨E.at F1 ρ1, F3, ρ2, δ3, st2, A3, S4, ?_⟩
      dsimp only at P2
      match q2 : body δ3 st2, P2 with
      | none, P2 => exact P2
      | some (.nx δ', st'), P2 => exact fun σ' ρ' F' H' A' S' => ⟨F', ρ', δ', st', A', S', P2⟩
      | some (.ct δ', st'), P2 => exact fun σ' ρ' F' H' A' S' => ⟨F', ρ', δ', st', A', S', P2⟩
      | some (.bk δ', st'), P2 => exact fun σ' ρ' F' H' A' S' => P2 σ' ρ' F' H' (A1.base A') S'
      | some (.rt r, st'), P2 => exact fun v ρ' F' H' A' S' R' => P2 v ρ' F' H' (A1.base A') S' R'
      | some (.ex x δ', st'), P2 => exact fun c d σ' ρ' F' H' A' S' R' => P2 c d σ' ρ' F' H' (A1.base A') S' R'
  · have : i = ds.length := by omega
    subst this
    rw [List.drop_length] at P2
    exact .inl ⟨I1.stop e2 p2 S2.fs (Nat.le_refl _), P2 σ2 ρ2 F2 H2 (A1.base A2) S2⟩
end

/-! ### list comprehensions -/
def wipeD (δ : DEnv) : List Nat → DEnv
  | [] => δ
  | v :: vs => (wipeD δ vs).set v none
theorem wipe_ok {g : GG} {H0 F H : Hp} {ρ : List Addr} {δ : DEnv} {σ : L2.St} {st : Sto} (S : St0 g H0 F ρ δ st σ H) : ∀ vs : List Nat, St0 g H0 F ρ (wipeD δ vs) st (wipe σ vs) H
  | [] => S
  | v :: vs => by
    have S1 := wipe_ok S vs
    have key : ∀ (j : Nat) (s : SV), ((wipeD δ vs).set v none)[j]? = some (some s) → j ≠ v ∧ (wipeD δ vs)[j]? = some (some s) := fun j s h => by
      by_cases z : j = v
      · subst z
        by_cases hi : j < (wipeD δ vs).length
        · rw [List.getElem?_set_self hi] at h; cases h
        · rw [List.getElem?_eq_none (by simpa using hi)] at h; cases h
      · rw [List.getElem?_set_ne (Ne.symm z)] at h
        exact ⟨z, h⟩
    unfold wipeD wipe
    refine ⟨S1.fs, by rw [List.length_set, List.length_set]; exact S1.len, fun j s h => ?_, fun j k b cj ck hj hk sj sk => ?_, S1.sto⟩
    · obtain ⟨z, h⟩ := key j s h
      obtain ⟨u, h1, h2⟩ := S1.slot j s h
      exact ⟨u, by rw [List.getElem?_set_ne (Ne.symm z)]; exact h1, h2⟩
    · obtain ⟨z1, h1⟩ := key j _ hj
      obtain ⟨z2, h2⟩ := key k _ hk
      rw [List.getElem?_set_ne (Ne.symm z1)] at sj
      rw [List.getElem?_set_ne (Ne.symm z2)] at sk
      exact S1.dist j k b cj ck h1 h2 sj sk
/-- no exception leaves -/
def noEx {α : Type} (m : M α) : M α := fun st => match m st with
  | some (.ex _, _) => none
  | o => o
/-- the items of a comprehension's list -/
def compG (t : GT) (tt : DEnv → M Bool) (te : DEnv → M Rv) (δ : DEnv) : List D → List D → M (List D)
  | [], acc => ret acc
  | d :: ds, acc => match t d δ with
    | none => fail
    | some δ1 => bnd (noEx (tt δ1)) fun b => if b then bnd (noEx (gFrz te δ1)) fun r => match r with
        | .fz y => if acc.length < LIM then compG t tt te δ ds (acc ++ [y]) else fail
        | _ => fail
      else compG t tt te δ ds acc
def gLc (gi : DEnv → M (List D)) (vs : List Nat) (t : GT) (tt : DEnv → M Bool) (te : DEnv → M Rv) : DEnv → M Rv := fun δ => bnd (gi δ) fun ds => bnd (compG t tt te (wipeD δ vs) ds []) fun acc => ret (.ow (.lst acc))
def gYes : DEnv → M Bool := fun _ => ret true
def DTs (C : Ctx) (ifs : List Expr) (gt : DEnv → M Bool) : Prop := ∀ X W, CtxOk C X → Takes X W → PTs X ifs (rdT (xg X) W gt)
theorem dts_nil {C : Ctx} : DTs C [] gYes := fun X W ok tk => ⟨fun pins s σ H Q I h => by
  obtain ⟨H0, F, ρ, δ, st, S, P⟩ := h
  exact pts_nil.run pins s σ H Q I (P ρ F H .refl S)⟩
theorem dts_one {C : Ctx} {c : Expr} {gt : DEnv → M Bool} (h : DT C c gt) : DTs C [c] gt := fun X W ok tk => pts_one (h X W ok tk)
/-- the context of a comprehension's block -/
def Ctx.blk (C : Ctx) (scope : Scope) : Ctx := { C with sc := relS scope C.sc, top := (fun x => scope.names.lookup x == some .cell), me := none }
theorem CtxOk.blk {C : Ctx} {X : Cx} (ok : CtxOk C X) (scope : Scope) (s : Shared) (H : Hp) (L : Addr) (cl : List (Str × Addr)) (fp : List Addr) : CtxOk (C.blk scope) (X.blk s H scope (compEnvC scope cl L X.env) fp) :=
  ⟨ok.prog, ok.w, ok.K, ok.mg, ok.base, ok.N, by show relS scope X.env.scope = relS scope C.sc; rw [ok.sc], ok.calm, ok.room, ok.dpH, ok.unH, PassesOwn.never, ok.nd, fun _ h => h, fun _ _ h => by cases h⟩
abbrev W0 : WX := fun _ _ _ _ => False
/-- a new list that is being filled, owned by no slot -/
theorem St0.fill {g : GG} {H0 F H : Hp} {ρ : List Addr} {δ : DEnv} {σ : L2.St} {st : Sto} {L : Addr} {o : HO} (S : St0 g H0 F ρ δ st σ H) (fL : F L = none) (nL : L ∉ ρ) (ns : ∀ (i : Nat) (c : Con), δ[i]? = some (some (.ow c)) → σ[i]? ≠ some (some (.ref L))) : St0 g H0 F ρ δ st σ (upd H L o) := by
  have fne : ∀ b o', F b = some o' → b ≠ L := fun b o' h z => by subst z; rw [fL] at h; cases h
  refine ⟨fun b o' h => by rw [upd_ne (fne b o' h)]; exact S.fs b o' h, S.len, fun j s h => ?_, S.dist, S.sto.len, S.sto.nd, fun b hb => ?_, fun n cc h => ?_⟩
  · obtain ⟨u, u1, u2⟩ := S.slot j s h
    refine ⟨u, u1, ?_⟩
    cases s with
    | fz d => exact u2
    | ow cc =>
      obtain ⟨b, rfl, k2, k3, k4, k5⟩ := u2
      have hb : b ≠ L := by
        rintro rfl
        exact ns j _ h u1
      exact ⟨b, rfl, k2, k3, k4, k5.kept (Same.refl F) ⟨[], by simp⟩ fun o' h' => by rw [upd_ne hb]; exact h'⟩
  · have hb2 : b ≠ L := fun z => nL (by rw [← z]; exact hb)
    rw [upd_ne hb2]
    exact S.sto.there b hb
  · obtain ⟨b, k1, k2, k3⟩ := S.sto.live n cc h
    have hb2 : b ≠ L := fun z => nL (by rw [← z]; exact List.mem_of_getElem? k1)
    exact ⟨b, k1, k2, k3.kept (Same.refl F) ⟨[], by simp⟩ fun o' h' => by rw [upd_ne hb2]; exact h'⟩
theorem After.fill {ρ0 ρ : List Addr} {F0 Hb F H : Hp} {L : Addr} {o : HO} (A : After ρ0 F0 Hb ρ F H) (n : Hb L = none) : After ρ0 F0 Hb ρ F (upd H L o) :=
  ⟨A.ff, A.fn, A.pre, fun a o' h n' => by rw [upd_ne (fun z => by subst z; rw [n] at h; cases h)]; exact A.hk a o' h n'⟩
theorem wipe_off {T vs : List Nat} {σ σ' : L2.St} (h : ∀ i ∈ T, i ∈ vs) (o : Off T σ σ') : wipe σ' vs = wipe σ vs := by
  apply List.ext_getElem?
  intro i
  by_cases hi : i ∈ vs
  · have key : ∀ (τ : L2.St) (ws : List Nat), i ∈ ws → (wipe τ ws)[i]? = if i < τ.length then some none else none := fun τ ws hw => by
      induction ws with
      | nil => cases hw
      | cons w ws ih =>
        unfold wipe
        by_cases z : w = i
        · subst z
          by_cases hl : w < τ.length
          · rw [if_pos hl, List.getElem?_set_self (by rw [wipe_length]; exact hl)]
          · rw [if_neg hl, List.getElem?_eq_none (by rw [List.length_set, wipe_length]; exact Nat.le_of_not_lt hl)]
        · rw [List.getElem?_set_ne z]
          rcases List.mem_cons.mp hw with z2 | z2
          · exact absurd z2.symm z
          · exact ih z2
    rw [key σ' vs hi, key σ vs hi, o.1]
  · rw [wipe_out hi, wipe_out hi]
    exact o.2 i fun z => hi (h i z)
theorem noEx_T {g : GG} {W : WX} {H0 F H : Hp} {ρ : List Addr} {δ δ1 : DEnv} {σ σ1 : L2.St} {st : Sto} {m : M Bool} {k : Bool → M (List D)} {k2 : List D → M Rv} {H1 F1 : Hp} {ρ1 : List Addr} {Q : VK} {R : Bool → Hp → Prop} (P : PostE g W H0 F1 ρ1 δ σ H1 (bnd (bnd (noEx m) k) k2 st) Q)
    (hk : ∀ F' ρ' st' H' b, After ρ F H ρ' F' H' → St0 g H0 F' ρ' δ1 st' σ1 H' → PostE g W H0 F1 ρ1 δ σ H1 (bnd (k b) k2 st') Q → R b H') : PostT g W0 H0 F ρ δ1 σ1 H (m st) R := by
  unfold bnd noEx at P
  match e : m st, P with
  | none, P => exact P
  | some (.ok b, st'), P => exact fun ρ' F' H' A' S' => hk F' ρ' st' H' b A' S' P
  | some (.ex x, st'), P => exact P.elim
theorem noEx_E {g : GG} {W : WX} {H0 F H : Hp} {ρ : List Addr} {δ δ1 : DEnv} {σ σ1 : L2.St} {st : Sto} {m : M Rv} {k : Rv → M (List D)} {k2 : List D → M Rv} {H1 F1 : Hp} {ρ1 : List Addr} {Q : VK} {R : V → Hp → Prop} (P : PostE g W H0 F1 ρ1 δ σ H1 (bnd (bnd (noEx m) k) k2 st) Q)
    (hk : ∀ F' ρ' st' H' v r, After ρ F H ρ' F' H' → St0 g H0 F' ρ' δ1 st' σ1 H' → RepR g F' ρ' δ1 σ1 H H' r v → PostE g W H0 F1 ρ1 δ σ H1 (bnd (k r) k2 st') Q → R v H') : PostE g W0 H0 F ρ δ1 σ1 H (m st) R := by
  unfold bnd noEx at P
  match e : m st, P with
  | none, P => exact P
  | some (.ok b, st'), P => exact fun v ρ' F' H' A' S' R' => hk F' ρ' st' H' v b A' S' R' P
  | some (.ex x, st'), P => exact P.elim
/-- the state of a comprehension's turn: acc stands at L -/
def CompAt (g : GG) (W : WX) (H0 F0 Hb : Hp) (ρ0 : List Addr) (F1 : Hp) (ρ1 : List Addr) (δ0 : DEnv) (σ0 : L2.St) (vs : List Nat) (t : GT) (tt : DEnv → M Bool) (te : DEnv → M Rv) (ds : List D) (L : Addr) (Q : VK) (i : Nat) (H : Hp) : Prop :=
  ∃ F ρ st acc xs, After ρ0 F0 Hb ρ F H ∧ Same F1 F ∧ (∃ l, ρ = ρ1 ++ l) ∧ St0 g H0 F ρ δ0 st σ0 H ∧ F L = none ∧ L ∉ ρ ∧ H L = some (.lst xs) ∧ Reps g F ρ acc xs ∧ PostE g W H0 F0 ρ0 δ0 σ0 Hb (bnd (compG t tt te (wipeD δ0 vs) (ds.drop i) acc) (fun acc => ret (.ow (.lst acc))) st) Q
section
variable {C : Ctx} {tg iter elt : Expr} {ifs : List Expr} {gi : DEnv → M (List D)} {t : GT} {tt : DEnv → M Bool} {te : DEnv → M Rv} {pos : Pos} {T : List Nat} {scope : Scope} {own : List (Str × Nat)}
/-- what a comprehension's reading asks -/
theorem lc_rd {X : Cx} {W : WX} {σ : L2.St} {H : Hp} {Q : VK} {vs : List Nat} (hT : ∀ i ∈ T, i ∈ vs) (h : rdE (xg X) W (gLc gi vs t tt te) σ H Q) : tLc (rdI (xg X) W gi) (rdG (xg X) t T) (rdT (xg X) W0 tt) (rdE (xg X) W0 (gFrz te)) vs σ H Q := by
  obtain ⟨H0, F0, ρ0, δ, st, S0, P⟩ := h
  refine ⟨H0, F0, ρ0, δ, st, S0, ?_⟩
  unfold gLc at P
  match e : gi δ st, P with
  | none, P => unfold bnd at P; rw [e] at P; exact P
  | some (.ex x, st1), P => unfold bnd at P; rw [e] at P; exact P
  | some (.ok ds, st1), P =>
    unfold bnd at P; rw [e] at P
    intro J ρ1 F1 H1 A1 S1 I1 L nL
    have nLρ : L ∉ ρ1 := S1.nmem nL
    have fL : F1 L = none := S1.fs.free nL
    have bL : H L = none := A1.back (fun z => nLρ (A1.mem z)) nL
    have ns : ∀ (i : Nat) (c : Con), δ[i]? = some (some (.ow c)) → σ[i]? ≠ some (some (.ref L)) := fun i c q z => by
      obtain ⟨u, u1, a, rfl, _, _, _, k⟩ := S0.slot i _ q
      rw [z] at u1; cases u1
      obtain ⟨o, ho⟩ := k.there
      rw [bL] at ho; cases ho
    refine ⟨fun i m H' => m = ds.length - i ∧ i ≤ ds.length ∧ CompAt (xg X) W H0 F0 H ρ0 F1 ρ1 δ σ vs t tt te ds L Q i H', ⟨ds.length, by simp, Nat.zero_le _, F1, ρ1, st1, [], [], A1.fill bL, Same.refl _, ⟨[], by simp⟩, S1.fill fL nLρ ns, fL, nLρ, upd_same, .nil, P⟩, ?_⟩
    rintro i m H2 ⟨rfl, hi, F2, ρ2, st2, acc, xs, A2, e2, p2, S2, fL2, nL2, hL2, r2, P2⟩
    by_cases hlt : i < ds.length
    · refine .inr ⟨I1.go e2 p2 S2.fs hlt, CompAt (xg X) W H0 F0 H ρ0 F1 ρ1 δ σ vs t tt te ds L Q (i + 1), fun H' h' => ⟨ds.length - (i + 1), by omega, rfl, hlt, h'⟩, fun x H3 hy => ?_⟩
      have hd : ds.drop i = ds[i] :: ds.drop (i + 1) := List.drop_eq_getElem_cons hlt
      rw [hd] at P2
      obtain ⟨F3, x3, r3⟩ := I1.yld e2 p2 S2.fs (List.getElem?_eq_getElem hlt) hy
      have S3 := S2.ext x3
      have A3 := A2.trans x3.after
      have fL3 : F3 L = none := x3.after.unf hL2 nL2 fL2
      have hL3 : H3 L = some (.lst xs) := x3.hh _ _ hL2
      unfold compG at P2
      refine ⟨H0, F3, ρ2, wipeD δ vs, st2, ds[i], wipe_ok S3 vs, r3, ?_⟩
      cases q : t ds[i] (wipeD δ vs) with
      | none => rw [q] at P2; exact P2.elim
      | some δ1 =>
        rw [q] at P2
        dsimp only at P2
        intro σ1 o1 S4
        refine ⟨by rw [wipe_off hT o1]; exact wipe_off (T := vs) (fun i h => h) ⟨wipe_length σ vs, fun i h => wipe_out h⟩, H0, F3, ρ2, δ1, st2, S4, noEx_T P2 fun F4 ρ4 st4 H4 b A4 S5 P4 => ?_⟩
        have e4 := A4.ff
        obtain ⟨l1, hl1⟩ := p2
        obtain ⟨l4, hl4⟩ := A4.ex
        have S6 := S3.after A4 ⟨S5.fs, S5.sto⟩
        have hL4 := A4.hk _ _ hL3 nL2
        cases b with
        | false =>
          simp only [Bool.false_eq_true, if_false] at P4 ⊢
          exact ⟨F4, ρ4, st4, acc, xs, A3.trans A4, (e2.trans x3.ff).trans e4, ⟨l1 ++ l4, by rw [hl4, hl1, List.append_assoc]⟩, S6, A4.unf hL3 nL2 fL3, A4.nmem nL2 hL3, hL4, r2.mono (x3.ff.trans e4) A4.ex, P4⟩
        | true =>
          simp only [if_true] at P4 ⊢
          refine ⟨H0, F4, ρ4, δ1, st4, S5, noEx_E P4 fun F5 ρ5 st5 H5 y r A5 S7 R5 P5 => ?_⟩
          have nL4 := A4.nmem nL2 hL3
          have fL4 := A4.unf hL3 nL2 fL3
          have nL5 := A5.nmem nL4 hL4
          have fL5 := A5.unf hL4 nL4 fL4
          have hL5 := A5.hk _ _ hL4 nL4
          obtain ⟨l5, hl5⟩ := A5.ex
          have S8 := S6.after A5 ⟨S7.fs, S7.sto⟩
          have r5 : Reps (xg X) F5 ρ5 acc xs := r2.mono ((x3.ff.trans e4).trans A5.ff) ⟨l4 ++ l5, by rw [hl5, hl4, List.append_assoc]⟩
          match r, R5, P5 with
          | .ow c, _, P5 => exact P5.elim
          | .vw j, _, P5 => exact P5.elim
          | .fz d, R5, P5 =>
            dsimp only at P5
            by_cases hl : acc.length < LIM
            · rw [if_pos hl] at P5
              refine ⟨xs, hL5, by rw [← r5.length, lim_eq]; exact hl, ?_⟩
              exact ⟨F5, ρ5, st5, acc ++ [d], xs ++ [y], ((A3.trans A4).trans A5).fill bL, ((e2.trans x3.ff).trans e4).trans A5.ff, ⟨l1 ++ l4 ++ l5, by rw [hl5, hl4, hl1]; simp⟩, S8.fill fL5 nL5 ns, fL5, nL5, upd_same, r5.append (.cons R5 .nil), P5⟩
            · rw [if_neg hl] at P5; exact P5.elim
    · have : i = ds.length := by omega
      subst this
      rw [List.drop_length] at P2
      exact .inl ⟨I1.stop e2 p2 S2.fs (Nat.le_refl _), P2 (.ref L) ρ2 F2 H2 A2 S2 ⟨L, rfl, fL2, nL2, bL, xs, hL2, r2⟩⟩
variable {C : Ctx} {elt tg iter : Expr} {ifs : List Expr} {y : Str} {py spos : Pos} {k : Nat}
theorem foldedOk {e : Expr} (h : ∀ (env : Env) x, foldedSetIterable e env x = pure x) (env : Env) : ∀ x, foldedSetIterable e env x = pure x := h env
theorem de_lc (hi : DI C tg iter gi) (bk : blkC C.N C.sc scope own = true) (hg : DG (C.blk scope) tg t T) (ht : DTs (C.blk scope) ifs tt) (he : DE (C.blk scope) elt te) (hT : ∀ i ∈ T, i ∈ own.map (·.2) := by decide) (hs : ∀ (env : Env) x, foldedSetIterable iter env x = pure x := by intro _ _; rfl) (hh : C.hot = false := by rfl) :
    DE C (.ListComp elt [⟨tg, iter, ifs, 0⟩] scope pos) (gLc gi (own.map (·.2)) t tt te) := fun X W ok tk => by
  refine peW (pe_lc (X := X) (own := own) (g := rdG (xg X) t T) (tt := rdT (xg X) W0 tt) (te := rdE (xg X) W0 (gFrz te)) (ok.calm hh) (by rw [ok.N]; exact ok.nd) (hi X W ok tk) (by rw [ok.N, ok.sc]; exact blkOk_by bk)
    (fun s H L cl fp => hg _ W0 (ok.blk scope s H L cl fp) takes0) (fun s H L cl fp => ht _ W0 (ok.blk scope s H L cl fp) takes0) (fun s H L cl fp => de_frz he _ W0 (ok.blk scope s H L cl fp) takes0) (hs _)) fun σ H Q h => lc_rd hT h
/-- name = [..] on one line -/
theorem ds_setLc (hN : C.N[k]? = some y) (hy : C.sc.names.lookup y = some .local) (hl : (py.line == pos.line) = true) (hk : C.sc.kind = .function) (ha : (scope.names.any fun (n, k) => n == y && (k == .local || k == .cell)) = false)
    (hi : DI C tg iter gi) (bk : blkC C.N C.sc scope own = true) (hg : DG (C.blk scope) tg t T) (ht : DTs (C.blk scope) ifs tt) (he : DE (C.blk scope) elt te) (hT : ∀ i ∈ T, i ∈ own.map (·.2) := by decide) (hs : ∀ (env : Env) x, foldedSetIterable iter env x = pure x := by intro _ _; rfl) (hh : C.hot = false := by rfl) :
    DS C (.Assign [.Name y py] (.ListComp elt [⟨tg, iter, ifs, 0⟩] scope pos) spos) (sSet k (gLc gi (own.map (·.2)) t tt te)) := fun X W ok tk => by
  refine psW (ps_setLc (X := X) (i := k) (own := own) (g := rdG (xg X) t T) (tt := rdT (xg X) W0 tt) (te := rdE (xg X) W0 (gFrz te)) (ok.calm hh) (by rw [ok.N]; exact ok.nd) (by rw [ok.N]; exact hN) (by rw [ok.sc]; exact hy)
    (sw_true (by rw [ok.sc]; exact hk) (by rw [ok.sc]; exact hy) hl ha) (hi X W ok tk) (by rw [ok.N, ok.sc]; exact blkOk_by bk)
    (fun s H L cl fp => hg _ W0 (ok.blk scope s H L cl fp) takes0) (fun s H L cl fp => ht _ W0 (ok.blk scope s H L cl fp) takes0) (fun s H L cl fp => de_frz he _ W0 (ok.blk scope s H L cl fp) takes0) (hs _)) fun D σ H h => ?_
  have h2 := set_rd h
  exact lc_rd hT h2
end
end DL

/-! DL9: cells, texts joined, sorted; a law's end. -/
namespace DL
open PySem PySem.Spec PyProof.Rows L2 TL
set_option autoImplicit false

/-! ### cells -/
theorem getElem_snoc {α : Type} {l : List α} {x y : α} {i : Nat} (h : (l ++ [x])[i]? = some y) : (i < l.length ∧ l[i]? = some y) ∨ (i = l.length ∧ y = x) := by
  by_cases hi : i < l.length
  · rw [List.getElem?_append_left hi] at h
    exact .inl ⟨hi, h⟩
  · have hi2 : l.length ≤ i := Nat.le_of_not_lt hi
    rw [List.getElem?_append_right hi2] at h
    by_cases z : i - l.length = 0
    · rw [z] at h
      exact .inr ⟨by omega, (Option.some.inj h).symm⟩
    · rw [List.getElem?_eq_none (by simp; omega)] at h; cases h
/-- name = a new thing, which becomes a cell -/
def sCell (i : Nat) (ga : DEnv → M Rv) : GS := fun δ => sBnd (ga δ) δ fun r st => match r with
  | .ow c => some (.nx (δ.set i (some (.fz (.loc st.length)))), st ++ [some c])
  | _ => none
theorem cell_new {g : GG} {E : En} {F H F1 H1 : Hp} {ρ ρ1 : List Addr} {δ : DEnv} {σ : L2.St} {st st1 : Sto} {i : Nat} {c : Con} {v : V} (A0 : Lat E ρ1 F1 H1) (S1 : St0 g E.H0 F1 ρ1 δ st1 σ H1) (A : After ρ1 F1 H1 ρ F H) (S : St0 g E.H0 F ρ δ st σ H) (R : RepR g F ρ δ σ H1 H (.ow c) v) :
    ∃ ρ', Lat E ρ' F H ∧ St0 g E.H0 F ρ' (δ.set i (some (.fz (.loc st.length)))) (st ++ [some c]) (σ.set i (some v)) H := by
  obtain ⟨a, rfl, e2, e3, e4, e5⟩ := R
  obtain ⟨o, ho⟩ := e5.there
  have hE : E.H0 a = none := A0.a.back (fun z => e3 (A.mem (A0.a.mem z))) e4
  have A2 := A0.step A
  have p : ∃ l, ρ ++ [a] = ρ ++ l := ⟨[a], rfl⟩
  have nown : ∀ (j : Nat) (c : Con) (b : Addr), δ[j]? = some (some (.ow c)) → σ[j]? = some (some (.ref b)) → b ≠ a := fun j c b h1 h2 z => by
    subst z
    obtain ⟨u, u1, a', rfl, _, _, _, k5⟩ := S1.slot j _ h1
    rw [h2] at u1; cases u1
    obtain ⟨o, ho⟩ := k5.there
    rw [e4] at ho; cases ho
  have key : ∀ (j : Nat) (s : SV), (δ.set i (some (.fz (.loc st.length))))[j]? = some (some s) → (j = i ∧ i < δ.length ∧ s = .fz (.loc st.length)) ∨ (j ≠ i ∧ δ[j]? = some (some s)) := fun j s h => by
    by_cases z : j = i
    · subst z
      by_cases hi : j < δ.length
      · rw [List.getElem?_set_self hi] at h
        cases h
        exact .inl ⟨rfl, hi, rfl⟩
      · rw [List.getElem?_eq_none (by simpa using hi)] at h; cases h
    · rw [List.getElem?_set_ne (Ne.symm z)] at h
      exact .inr ⟨z, h⟩
  refine ⟨ρ ++ [a], ⟨⟨A2.a.ff, fun b o h1 h2 => A2.a.fn b o h1 h2, ?_, A2.a.hk⟩, A2.b, ?_⟩, S.fs, by rw [List.length_set, List.length_set]; exact S.len, fun j s h => ?_, fun j k b cj ck hj hk sj sk => ?_, ?_, ?_, fun b hb => ?_, fun n cc h => ?_⟩
  · obtain ⟨l, hl, hn⟩ := A2.a.pre
    refine ⟨l ++ [a], by rw [hl, List.append_assoc], fun b hb => ?_⟩
    rcases List.mem_append.mp hb with z | z
    · exact hn b z
    · have : b = a := by simpa using z
      subst this
      exact ⟨hE, fun z => e3 (A.mem (A0.a.mem z))⟩
  · obtain ⟨l, hl⟩ := A2.p
    exact ⟨l ++ [a], by rw [hl, List.append_assoc]⟩
  · rcases key j s h with ⟨rfl, hi, rfl⟩ | ⟨z, h⟩
    · refine ⟨.ref a, List.getElem?_set_self (by rw [S.len]; exact hi), .loc ?_⟩
      rw [← S.sto.len, List.getElem?_append_right (Nat.le_refl _)]
      simp
    · obtain ⟨u, u1, u2⟩ := S.slot j s h
      refine ⟨u, by rw [List.getElem?_set_ne (Ne.symm z)]; exact u1, ?_⟩
      cases s with
      | fz d => exact Rep.mono (Same.refl F) p u2
      | ow cc =>
        obtain ⟨b, rfl, k2, k3, k4, k5⟩ := u2
        refine ⟨b, rfl, k2, fun z => ?_, k4, k5.kept (Same.refl F) p fun o q => q⟩
        rcases List.mem_append.mp z with z | z
        · exact k3 z
        · exact nown j cc b h u1 (by simpa using z)
  · rcases key j _ hj with ⟨_, _, z⟩ | ⟨y1, hj⟩
    · cases z
    · rcases key k _ hk with ⟨_, _, z⟩ | ⟨y2, hk⟩
      · cases z
      · rw [List.getElem?_set_ne (Ne.symm y1)] at sj
        rw [List.getElem?_set_ne (Ne.symm y2)] at sk
        exact S.dist j k b cj ck hj hk sj sk
  · rw [List.length_append, List.length_append, S.sto.len]; rfl
  · exact List.nodup_append.mpr ⟨S.sto.nd, by simp, fun x hx y hy z => by
      have : y = a := by simpa using hy
      subst this
      subst z
      exact e3 hx⟩
  · rcases List.mem_append.mp hb with z | z
    · exact S.sto.there b z
    · have : b = a := by simpa using z
      subst this
      exact ⟨o, ho⟩
  · rcases getElem_snoc h with ⟨hn, h⟩ | ⟨hn, h⟩
    · obtain ⟨b, k1, k2, k3⟩ := S.sto.live n cc h
      exact ⟨b, by rw [List.getElem?_append_left (by rw [S.sto.len]; exact hn)]; exact k1, k2, k3.kept (Same.refl F) p fun o q => q⟩
    · cases h
      refine ⟨a, ?_, e2, e5.kept (Same.refl F) p fun o q => q⟩
      rw [hn, ← S.sto.len, List.getElem?_append_right (Nat.le_refl _)]
      simp
/-- a cell's object is changed -/
theorem cell_upd {g : GG} {E : En} {F H : Hp} {ρ : List Addr} {δ : DEnv} {σ : L2.St} {st : Sto} {n : Nat} {c' : Con} {a : Addr} {o : HO} (A : Lat E ρ F H) (S : St0 g E.H0 F ρ δ st σ H) (hr : ρ[n]? = some a) (hF : F a = none) (k : ConOk g F ρ (upd H a o) a c') :
    Lat E ρ F (upd H a o) ∧ St0 g E.H0 F ρ δ (st.set n (some c')) σ (upd H a o) := by
  have fne : ∀ b o', F b = some o' → b ≠ a := fun b o' h z => by subst z; rw [hF] at h; cases h
  have ha : a ∈ ρ := List.mem_of_getElem? hr
  have hn : n < st.length := by rw [← S.sto.len]; exact (List.getElem?_eq_some_iff.mp hr).1
  refine ⟨⟨⟨A.a.ff, A.a.fn, A.a.pre, fun b o' h n' => ?_⟩, A.b, A.p⟩, fun b o' h => by rw [upd_ne (fne b o' h)]; exact S.fs b o' h, S.len, fun j s h => ?_, S.dist, by rw [List.length_set]; exact S.sto.len, S.sto.nd, fun b hb => ?_, fun m cc h => ?_⟩
  · rw [upd_ne]
    · exact A.a.hk b o' h n'
    · rintro rfl
      obtain ⟨l, hl, hn⟩ := A.a.pre
      rw [hl] at ha
      rcases List.mem_append.mp ha with z | z
      · exact n' z
      · rw [(hn _ z).1] at h; cases h
  · obtain ⟨u, u1, u2⟩ := S.slot j s h
    refine ⟨u, u1, ?_⟩
    cases s with
    | fz d => exact u2
    | ow cc =>
      obtain ⟨b, rfl, k2, k3, k4, k5⟩ := u2
      have hb : b ≠ a := fun z => k3 (by rw [z]; exact ha)
      exact ⟨b, rfl, k2, k3, k4, k5.kept (Same.refl F) ⟨[], by simp⟩ fun o' h' => by rw [upd_ne hb]; exact h'⟩
  · by_cases hb2 : b = a
    · subst hb2; exact ⟨o, upd_same⟩
    · rw [upd_ne hb2]; exact S.sto.there b hb
  · by_cases z : m = n
    · subst z
      rw [List.getElem?_set_self hn] at h
      cases h
      exact ⟨a, hr, hF, k⟩
    · rw [List.getElem?_set_ne (Ne.symm z)] at h
      obtain ⟨b, k1, k2, k3⟩ := S.sto.live m cc h
      have hb2 : b ≠ a := by
        rintro rfl
        exact z ((List.getElem?_inj (by rw [S.sto.len]; exact (List.getElem?_eq_some_iff.mp h).1) S.sto.nd).mp (by rw [k1, hr]))
      exact ⟨b, k1, k2, k3.kept (Same.refl F) ⟨[], by simp⟩ fun o' h' => by rw [upd_ne hb2]; exact h'⟩
/-- x[k] = e of a list in a cell -/
def locAt (δ : DEnv) (i : Nat) : Option Nat := match δ[i]? with
  | some (some (.fz (.loc n))) => some n
  | _ => none
def cellL (st : Sto) (n : Nat) : Option (List D) := match cellAt st n with
  | some (.lst ds) => some ds
  | _ => none
def sSubC (i : Nat) (ga gk : DEnv → M Rv) : GS := fun δ => match locAt δ i with
  | some n => sBnd (gFrz ga δ) δ fun r => sBnd (gk δ) δ fun rk st => match (match r with | .fz d => (cellL st n).bind fun ds => rk.asI.bind fun k => setIx ds k d | _ => none) with
    | some ds' => some (.nx δ, st.set n (some (.lst ds')))
    | none => none
  | none => fun _ => none
section
variable {C : Ctx} {e k : Expr} {ga gk : DEnv → M Rv} {pos p1 p2 pos' : Pos} {i : Nat} {x : Str}
theorem ds_cell (hi : C.N[i]? = some x) (hx : Stor C x) (ha : DE C e ga) (hn : noComp e = true := by rfl) : DS C (.Assign [.Name x pos'] e pos) (sCell i ga) := fun X W ok tk => by
  refine psW (ps_set (i := i) (by rw [ok.N]; exact ok.nd) (by rw [ok.N]; exact hi) (ok.loc hx) (ha X W ok tk) (swaps_none hn) (ok.fn hx)) fun D σ H ⟨E, F, ρ, δ, st, A, S, P⟩ => ?_
  refine ⟨E.H0, F, ρ, δ, st, S, PostS_bnd A P fun F' ρ' st' H' v r A' A2 S' R' P' => ?_⟩
  cases r with
  | fz d => exact P'.elim
  | vw j => exact P'.elim
  | ow c =>
    obtain ⟨ρ2, A3, S3⟩ := cell_new (i := i) A S A' S' R'
    exact P' _ ρ2 F' H' A3 S3
theorem ds_subC (hN : C.N[i]? = some x) (hv : Vis C.sc x) (ha : DE C e ga) (hk : DE C k gk) (hd : (x == ("__debug__" : Str)) = false := by decide) (hcd : (x == ("__classdict__" : Str)) = false := by decide) (hn : noComp e = true := by rfl)
    (has : ∀ (env : Env) v, assign (.Subscript (.Name x p1) k p2) env v = (do
      let ov ← holding [v] (eval (.Name x p1) env)
      let iv ← holding [v, ov] (eval k env)
      standAt p2
      holding [v, ov, iv] (setItem ov iv v)
      release [v, ov, iv] []) := by intro _ _; rfl) :
    DS C (.Assign [.Subscript (.Name x p1) k p2] e pos) (sSubC i ga gk) := fun X W ok tk => by
  have hx : PE X (.Name x p1) (tVar i) := pe_var (i := i) (by rw [ok.N]; exact hN) (by rw [ok.sc]; exact hv) hd hcd
  refine psW (ps_asg (de_frz ha X W ok tk) (pg_sub hx (hk X W ok tk) set_list (has X.env)) (swapsSole hn) (swapped_none rfl)) fun D σ H ⟨E, F, ρ, δ, st, A, S, P⟩ => ?_
  unfold sSubC at P
  cases q : locAt δ i with
  | none => rw [q] at P; exact P.elim
  | some n =>
    rw [q] at P
    have q2 : δ[i]? = some (some (.fz (.loc n))) := by
      unfold locAt at q
      split at q
      · cases q; assumption
      · cases q
    refine ⟨E.H0, F, ρ, δ, st, S, PostS_bnd A P fun F1 ρ1 st1 H1 v r A1 A1' S1 R1 P1 => ?_⟩
    obtain ⟨v1, h1, rv1⟩ := S1.slot i _ q2
    refine ⟨_, h1, E.H0, F1, ρ1, δ, st1, S1, PostS_bnd A1' P1 fun F2 ρ2 st2 H2 u rk A2 A2' S2 R2 P2 => ?_⟩
    cases r with
    | ow c => exact P2.elim
    | vw j => exact P2.elim
    | fz d =>
      dsimp only at P2
      cases q3 : cellL st2 n with
      | none => rw [q3] at P2; exact P2.elim
      | some ds =>
        rw [q3] at P2
        cases q4 : rk.asI with
        | none => rw [q4] at P2; exact P2.elim
        | some z =>
          rw [q4] at P2
          change PostS (xg X) W E (match setIx ds z d with
            | some ds' => some (.nx δ, st2.set n (some (.lst ds')))
            | none => none) D at P2
          cases q5 : setIx ds z d with
          | none => rw [q5] at P2; exact P2.elim
          | some ds' =>
            rw [q5] at P2
            unfold setIx at q5
            cases q6 : ixN ds.length z with
            | none => rw [q6] at q5; cases q5
            | some j =>
              rw [q6] at q5; cases q5
              have q7 : st2[n]? = some (some (.lst ds)) := by
                unfold cellL cellAt at q3
                split at q3
                · rename_i w
                  cases q3
                  split at w
                  · cases w; assumption
                  · cases w
                · cases q3
              obtain ⟨a, k1, k2, xs, k3, k4⟩ := S2.sto.live n _ q7
              have rv2 : Rep (xg X) F2 ρ2 (.loc n) v1 := Rep.mono A2.ff A2.ex rv1
              cases rv2 with
              | loc k5 =>
                rw [k1] at k5; cases k5
                refine ⟨a, xs, z, j, rfl, asI_v R2 q4, k3, by rw [← k4.length]; exact q6, ?_⟩
                have ry : Reps (xg X) F2 ρ2 (ds.set j d) (xs.set j v) := Reps.set (Rep.mono A2.ff A2.ex R1) j k4
                obtain ⟨A3, S3⟩ := cell_upd (c' := .lst (ds.set j d)) (o := .lst (xs.set j v)) A2' S2 k1 k2 ⟨_, upd_same, ry⟩
                exact P2 σ ρ2 F2 _ A3 S3
end

/-! ### texts -/
def gJoin (ga gb : DEnv → M Rv) : DEnv → M Rv := fun δ => bnd (ga δ) fun s => opt s.asS fun sep => bnd (gFrz gb δ) fun x st => (opt (x.asQ δ st) fun ds => opt (strs? ds) fun ss => if (ss.map List.length).sum + ss.length * sep.length ≤ LIM then rsv (joinL sep ss) else fail) st
section
variable {C : Ctx} {o e : Expr} {ga gb : DEnv → M Rv} {pos apos : Pos}
/-- not super() -/
def noSup (o : Expr) : Bool := match o with
  | .Call (.Name id _) _ _ _ => !(id == ("super" : Str))
  | _ => true
theorem base_ok {o : Expr} {f : Str} {env : Env} {w : Sem Value} (h : noSup o = true) : attributeBase o f env w = w := by
  unfold attributeBase
  split
  · rename_i id p q
    unfold noSup at h
    have : (id != ("super" : Str)) = true := h
    simp only [this, Bool.true_or, if_true]
  · rfl
theorem tl_glued (sep : List Nat) (ss : List (List Nat)) : Txt.join ⟨sep.toArray⟩ (ss.map fun s => (⟨s.toArray⟩ : Str)) = ⟨(joinL sep ss).toArray⟩ := by
  rw [join_eq]
  refine ext_tl ?_
  rw [tl_join, tl_mk, tl_mk]
  congr 1
  rw [List.map_map]
  exact List.map_id'' (fun s => tl_mk s) ss
theorem de_join (ha : DE C o ga) (hb : DE C e gb) (hs : noStar e = true := by rfl) (hsup : noSup o = true := by rfl) (hline : (apos.endLine == pos.line) = true := by rfl) : DE C (.Call (.Attribute o "join" apos) [e] [] pos) (gJoin ga gb) := fun X W ok tk => by
  refine peW (pe_join (ha X W ok tk) (de_frz hb X W ok tk) (star_eq hs) (base_ok hsup) hline) fun σ H Q h => rdE_bnd h fun H0 F ρ δ st Hs H v r S R P => ?_
  obtain ⟨sep, e1, P⟩ := opt_ok P
  refine ⟨⟨_, asS_v R e1⟩, H0, F, ρ, δ, st, S, PostE_bnd P fun F' ρ' st' H' u y A S' R' P' => ?_⟩
  obtain ⟨ds, e2, P2⟩ := opt_ok P'
  obtain ⟨ss, e3, P3⟩ := opt_ok P2
  split at P3
  · rename_i hl
    obtain ⟨p, vs, rfl, h1, h2⟩ := asQ_v S' R' e2
    rw [strs_eq e3] at h2
    have h3 := Reps.strs h2
    rw [h3] at h1
    refine ⟨_, p, _, asS_v R e1, rfl, h1, ?_, ?_⟩
    · rw [List.length_map, List.map_map, len_mk]
      have : (List.map (Str.length ∘ fun s => (⟨s.toArray⟩ : Str)) ss) = ss.map List.length := List.map_congr_left fun s _ => len_mk s
      rw [this]
      exact hl
    · rw [tl_glued]
      exact pS S' P3
  · exact P3.elim
end

/-! ### sorted -/
/-- insertion into a sorted list -/
def insD {α : Type} (le : α → α → Bool) (x : α) : List α → List α
  | [] => [x]
  | y :: ys => if le x y then x :: y :: ys else y :: insD le x ys
def isort {α : Type} (le : α → α → Bool) : List α → List α
  | [] => []
  | x :: xs => insD le x (isort le xs)
theorem insD_perm {α : Type} (le : α → α → Bool) (x : α) : ∀ l : List α, (insD le x l).Perm (x :: l)
  | [] => .refl _
  | y :: ys => by
    unfold insD
    split
    · exact .refl _
    · exact ((insD_perm le x ys).cons y).trans (.swap x y ys)
theorem isort_perm {α : Type} (le : α → α → Bool) : ∀ l : List α, (isort le l).Perm l
  | [] => .refl _
  | x :: xs => (insD_perm le x _).trans ((isort_perm le xs).cons x)
theorem insD_pw {α : Type} (le : α → α → Bool) (tot : ∀ a b, le a b = true ∨ le b a = true) (tr : ∀ a b c, le a b = true → le b c = true → le a c = true) (x : α) : ∀ l : List α, l.Pairwise (fun a b => le a b = true) → (insD le x l).Pairwise (fun a b => le a b = true)
  | [], _ => .cons (fun _ h => by cases h) .nil
  | y :: ys, h => by
    unfold insD
    cases h with
    | cons h1 h2 =>
      split
      · rename_i hxy
        refine .cons (fun z hz => ?_) (.cons h1 h2)
        rcases List.mem_cons.mp hz with rfl | hz
        · exact hxy
        · exact tr _ _ _ hxy (h1 z hz)
      · rename_i hxy
        refine .cons (fun z hz => ?_) (insD_pw le tot tr x ys h2)
        rcases List.mem_cons.mp ((insD_perm le x ys).mem_iff.mp hz) with rfl | hz
        · rcases tot z y with q | q
          · exact absurd q hxy
          · exact q
        · exact h1 z hz
theorem isort_pw {α : Type} (le : α → α → Bool) (tot : ∀ a b, le a b = true ∨ le b a = true) (tr : ∀ a b c, le a b = true → le b c = true → le a c = true) : ∀ l : List α, (isort le l).Pairwise (fun a b => le a b = true)
  | [] => .nil
  | x :: xs => insD_pw le tot tr x _ (isort_pw le tot tr xs)
/-- sorted lists of the same items are one -/
theorem sorted_uniq {α : Type} {le : α → α → Bool} (anti : ∀ a b, le a b = true → le b a = true → a = b) : ∀ {l m : List α}, l.Perm m → l.Pairwise (fun a b => le a b = true) → m.Pairwise (fun a b => le a b = true) → l = m
  | [], m, p, _, _ => (List.perm_nil.mp p.symm).symm
  | x :: l, m, p, h, h' => by
    cases m with
    | nil => exact absurd (List.perm_nil.mp p) (by simp)
    | cons y m =>
      cases h with
      | cons h1 h2 =>
        cases h' with
        | cons h3 h4 =>
          have e : x = y := by
            rcases List.mem_cons.mp (p.mem_iff.mp (List.mem_cons_self)) with q | q
            · exact q
            · rcases List.mem_cons.mp (p.mem_iff.mpr (List.mem_cons_self)) with q2 | q2
              · exact q2.symm
              · exact anti _ _ (h1 y q2) (h3 x q)
          subst e
          rw [sorted_uniq anti ((List.perm_cons x).mp p) h2 h4]
def leI (a b : Int) : Bool := decide (a ≤ b)
def leS (a b : List Nat) : Bool := !decide (b < a)
def kSortI : KN := k1 fun δ x st => (opt (x.asR δ st) fun ds => opt (ints? ds) fun ns => ret (.ow (.lst ((isort leI ns).map D.int)))) st
def kSortS : KN := k1 fun δ x st => (opt (x.asR δ st) fun ds => opt (strs? ds) fun ns => if ns.length < 64 then ret (.ow (.lst ((isort leS ns).map D.str))) else fail) st
def isInts (δ : DEnv) (rs : List Rv) (st : Sto) : Bool := match rs with
  | [x] => ((x.asR δ st).bind ints?).isSome
  | _ => false
def kSorted : KN := fun δ rs st => if isInts δ rs st then kSortI δ rs st else kSortS δ rs st
theorem FnK.orS {C : Ctx} {f : Value} {k k' : KN} {p : DEnv → List Rv → Sto → Bool} (h : FnK C f k) (h' : FnK C f k') : FnK C f (fun δ rs st => if p δ rs st then k δ rs st else k' δ rs st) := fun X ok => by
  obtain ⟨r, h1, h2⟩ := h X ok
  obtain ⟨r', h1', h2'⟩ := h' X ok
  refine ⟨_, h1.or h1', fun W H0 F ρ δ st σ H Hs rs vs Q S R P => ?_⟩
  dsimp only at P
  split at P
  · exact .inl (h2 W H0 F ρ δ st σ H Hs rs vs Q S R P)
  · exact .inr (h2' W H0 F ρ δ st σ H Hs rs vs Q S R P)
theorem leI_tot (a b : Int) : leI a b = true ∨ leI b a = true := by
  unfold leI
  simp only [decide_eq_true_eq]
  omega
theorem leI_tr (a b c : Int) : leI a b = true → leI b c = true → leI a c = true := by
  unfold leI
  simp only [decide_eq_true_eq]
  omega
theorem leI_anti (a b : Int) : leI a b = true → leI b a = true → a = b := by
  unfold leI
  simp only [decide_eq_true_eq]
  omega
section
variable {C : Ctx}
theorem ok_sortI : FnK C (.builtin "sorted") kSortI := fnK1 fun X ok => ⟨_, cr_sortedI, fun W H0 F ρ δ st σ H Hs x v Q S R P => by
  obtain ⟨ds, e1, P⟩ := opt_ok P
  obtain ⟨ns, e2, P⟩ := opt_ok P
  obtain ⟨p, vs, rfl, h1, h2⟩ := asR_v S R e1
  rw [ints_eq e2] at h2
  rw [Reps.ints h2] at h1
  refine ⟨p, ns, rfl, h1, fun ns' q hp hw nq => ?_⟩
  have e : ns' = isort leI ns := sorted_uniq leI_anti (hp.trans (isort_perm leI ns).symm) (hw.imp fun h => decide_eq_true h) (isort_pw leI leI_tot leI_tr ns)
  rw [e]
  exact new_own P S (.of_ints _) q nq⟩
theorem leS_iff {a b : List Nat} : leS a b = true ↔ a ≤ b := by
  unfold leS
  rw [Bool.not_eq_true', decide_eq_false_iff_not]
  exact List.not_lt
theorem leS_tot (a b : List Nat) : leS a b = true ∨ leS b a = true := by
  rw [leS_iff, leS_iff]
  exact List.le_total a b
theorem leS_tr (a b c : List Nat) : leS a b = true → leS b c = true → leS a c = true := by
  rw [leS_iff, leS_iff, leS_iff]
  exact List.le_trans
theorem leS_anti (a b : List Nat) : leS a b = true → leS b a = true → a = b := by
  rw [leS_iff, leS_iff]
  exact List.le_antisymm
theorem rising_pw : ∀ {x : Str} {l : List Str}, risingS x l = true → (x :: l).Pairwise (fun a b => leS (tl a) (tl b) = true)
  | x, [], _ => .cons (fun _ h => by cases h) .nil
  | x, y :: r, h => by
    unfold risingS at h
    rw [Bool.and_eq_true, ltCps_eq] at h
    have h2 := rising_pw h.2
    refine .cons (fun z hz => ?_) h2
    have h3 : leS (tl x) (tl y) = true := h.1
    rcases List.mem_cons.mp hz with rfl | hz
    · exact h3
    · cases h2 with
      | cons k1 k2 => exact leS_tr _ _ _ h3 (k1 z hz)
theorem sorted_pw : ∀ {l : List Str}, sortedS l = true → l.Pairwise (fun a b => leS (tl a) (tl b) = true)
  | [], _ => .nil
  | x :: r, h => rising_pw h
theorem ok_sortS : FnK C (.builtin "sorted") kSortS := fnK1 fun X ok => ⟨_, cr_sortedS, fun W H0 F ρ δ st σ H Hs x v Q S R P => by
  obtain ⟨ds, e1, P⟩ := opt_ok P
  obtain ⟨ns, e2, P⟩ := opt_ok P
  obtain ⟨p, vs, rfl, h1, h2⟩ := asR_v S R e1
  rw [strs_eq e2] at h2
  rw [Reps.strs h2] at h1
  split at P
  · rename_i hl
    refine ⟨p, _, rfl, h1, by rw [List.length_map]; exact hl, fun ys q hp hw nq => ?_⟩
    have hm : (ys.map tl).Perm ns := by
      have := hp.map tl
      rw [List.map_map] at this
      rw [show List.map (tl ∘ fun s => (⟨s.toArray⟩ : Str)) ns = ns from List.map_id'' (fun s => tl_mk s) ns] at this
      exact this
    have e : ys.map tl = isort leS ns := sorted_uniq leS_anti (hm.trans (isort_perm leS ns).symm) (List.pairwise_map.mpr (sorted_pw hw)) (isort_pw leS leS_tot leS_tr ns)
    have e2 : ys = (isort leS ns).map fun s => (⟨s.toArray⟩ : Str) := by
      rw [← e, List.map_map]
      exact (List.map_id'' (fun s => mk_tl s) ys).symm
    rw [e2]
    exact new_own P S (.of_strs _) q nq
  · exact P.elim⟩
theorem ok_sorted : FnK C (.builtin "sorted") kSorted := ok_sortI.orS ok_sortS
end

/-! ### a law's end -/
theorem law_sp {K : PySem.W.Frag} {mg : Str → Option Value} {f : List D → M Rv} (hf : ∀ ns : List Int, ns.length ≤ 63 → ∃ st', f [.rol (ns.map D.int)] [] = some (.ok (.fz (.bl true)), st')) :
    ∀ (H : Hp) (a : Addr) (ns : List Int), ns.length ≤ 63 → Only H → SqL K H a (ns.map V.int) → spD ⟨K, mg⟩ 1 f [.ref a] H (fun v _ => v = .bl true) fun _ _ _ => False := fun H a ns hl hO hS => by
  obtain ⟨st', e⟩ := hf ns hl
  refine ⟨H, [], [.rol (ns.map D.int)], [], ⟨Same.refl H, rfl, .nil, fun _ h => absurd h (by simp), fun n c h => by simp at h⟩, .cons (.rol hS (.of_ints ns)) .nil, rfl, ?_⟩
  rw [e]
  exact fun v ρ' F' H' A S R => Rep.bl_v R
end DL

/-! DL10: defs by the head's facts. -/
namespace DL
open PySem PySem.Spec PyProof.Rows L2 TL
set_option autoImplicit false
abbrev FnP (K : PySem.W.Frag) (x : Str) (st : Stmt) (f : Addr) (fd : FuncData) : Prop := FunD K x x (defArgs st) (defBody st) (defScope st) [] [] f fd
/-- a name stands for a def that keeps f's promise, at level k -/
def FnX (P : Program) (w : World) (K : PySem.W.Frag) (mg : Str → Option Value) (base : Heap) (k : Nat) (x : Str) (n : Nat) (f : List D → M Rv) : Prop :=
  ∃ (fa : Addr) (fd : FuncData) (ps : List Str), mg x = some (.ref fa) ∧ PySem.W.keepIn K (.ref fa) = true ∧ Binds K fd ps [] ∧ FnOk P w K mg base (L2.CX P w) k fa fd ps (spD ⟨K, mg⟩ n f)
section
variable {P : Program} {w : World} {K : PySem.W.Frag} {mg : Str → Option Value} {base : Heap} {k j n : Nat} {x : Str} {f : List D → M Rv}
theorem FnX.up (h : FnX P w K mg base j x n f) (l : j ≤ k) : FnX P w K mg base k x n f := by
  obtain ⟨fa, fd, ps, h1, h2, h3, h4⟩ := h
  exact ⟨fa, fd, ps, h1, h2, h3, h4.mono l⟩
theorem FnX.at {C : Ctx} (h : FnX C.P C.w C.K C.mg C.base j x n f) (l : j ≤ C.k) : FnD C x n f := h.up l
theorem fnokD {stm : Stmt} {fa : Addr} {fd : FuncData} {N ps : List Str} {gs : GS}
    (Fn : FnP K x stm fa fd) (Sc : FnScope N ps (defScope stm)) (hb : DSs ⟨P, w, K, mg, base, N, defScope stm, k, fun _ => true, false, none⟩ (defBody stm) gs) :
    FnOk P w K mg base (L2.CX P w) (k + 1) fa fd ps (spD ⟨K, mg⟩ ps.length (runB N gs)) := by
  refine FunD.ok Fn Sc (fun vs H Q E h => spD_len h) fun cdv A outer s H vs Q E hr h => ?_
  obtain ⟨F, ρ, ds, st, S, R, hl, Po⟩ := h
  have ok : CtxOk ⟨P, w, K, mg, base, N, defScope stm, k, fun _ => true, false, none⟩ (cxOf (L2.CX P w) P w K mg base N x (defScope stm) fa cdv A outer s H E) :=
    ⟨rfl, rfl, rfl, rfl, rfl, rfl, rfl, fun _ => rfl, fun _ => hr, hr.dp, hr.un, passes_of rfl, Sc.nd, fun _ _ => rfl, fun _ _ h => by cases h⟩
  refine ⟨_, hb _ (fun cls d _ H => E cls d H) ok (takes_of rfl rfl rfl (E := E) rfl), ?_⟩
  refine ⟨⟨H, F, ρ, F, ρ⟩, F, ρ, startD N ds, st, ⟨.refl, Same.refl F, ⟨[], by simp⟩⟩, start_ok S R, ?_⟩
  unfold runB at Po
  match e : gs (startD N ds) st, Po with
  | none, Po => exact Po
  | some (.nx δ', st'), Po => exact fun σ' ρ' F' H' A' S' => Po .non ρ' F' H' A'.a ⟨S'.fs, S'.sto⟩ .non
  | some (.rt r, st'), Po => exact fun v ρ' F' H' A' S' R' => Po v ρ' F' H' A'.a S' R'
  | some (.bk _, _), Po => exact Po.elim
  | some (.ct _, _), Po => exact Po.elim
  | some (.ex x δ', st'), Po => exact fun c d σ' ρ' F' H' A' S' R' => Po c d ρ' F' H' A'.a ⟨S'.fs, S'.sto⟩ R'
/-- a def that stands -/
theorem fnxD {stm : Stmt} {fa : Addr} {fd : FuncData} {N ps : List Str} {gs : GS}
    (Fn : FnP K x stm fa fd) (hm : mg x = some (.ref fa)) (Sc : FnScope N ps (defScope stm)) (hn : ps.length = n)
    (hbd : ∀ (kV doc pm : Value) (an : Option Addr) (cdv ct : Value) (us : List Value), us.length = ps.length → bindArgs (PySem.W.fnOf x x (defArgs stm) (defBody stm) (defScope stm) .none kV doc pm an cdv ct) ⟨us, []⟩ = pure (ps.zip us))
    (hb : DSs ⟨P, w, K, mg, base, N, defScope stm, k, fun _ => true, false, none⟩ (defBody stm) gs) : FnX P w K mg base (k + 1) x n (runB N gs) := by
  subst hn
  exact ⟨fa, fd, ps, hm, Fn.kp, Fn.bindsN hbd, fnokD Fn Sc hb⟩
/-- a def that is never called well -/
theorem fnx0 {stm : Stmt} {fa : Addr} {fd : FuncData} {N ps : List Str}
    (Fn : FnP K x stm fa fd) (hm : mg x = some (.ref fa)) (Sc : FnScope N ps (defScope stm)) (hn : ps.length = n)
    (hbd : ∀ (kV doc pm : Value) (an : Option Addr) (cdv ct : Value) (us : List Value), us.length = ps.length → bindArgs (PySem.W.fnOf x x (defArgs stm) (defBody stm) (defScope stm) .none kV doc pm an cdv ct) ⟨us, []⟩ = pure (ps.zip us)) : FnX P w K mg base 1 x n (fun _ => fail) := by
  subst hn
  refine ⟨fa, fd, ps, hm, Fn.kp, Fn.bindsN hbd, ?_⟩
  refine FunD.ok Fn Sc (fun vs H Q E h => spD_len h) fun cdv A outer s H vs Q E hr h => ?_
  obtain ⟨F, ρ, ds, st, S, R, hl, Po⟩ := h
  exact Po.elim
end
section
variable {C : Ctx} {x : Str} {pos : Pos}
theorem de_gint {i : Int} (hg : Glo C x) (hm : ∃ t, C.mg x = some (.int i t)) (hdb : (x == ("__debug__" : Str)) = false := by decide) : DE C (.Name x pos) (gC (.int i)) := by
  obtain ⟨t, hm⟩ := hm
  exact de_glob (v := .int i) hg hm ⟨t, rfl⟩ (fun _ _ => .int) hdb
theorem de_gstr {z : Str} {s : List Nat} (hg : Glo C x) (hm : ∃ t, C.mg x = some (.str z t)) (e : tl z = s := by decide +kernel) (hdb : (x == ("__debug__" : Str)) = false := by decide) : DE C (.Name x pos) (gC (.str s)) := by
  obtain ⟨t, hm⟩ := hm
  subst e
  exact de_glob (v := .str z) hg hm ⟨t, rfl⟩ (fun _ _ => rep_str z) hdb
end
/-- nothing leaves a law -/
theorem CX_none {P : Program} {w : World} (H : Hp) (s : Shared) (e : Value) (s' : Shared) (h : L2.CX P w [] H s (fun _ _ _ => False) e s') : False := by
  unfold L2.CX at h
  first
    | exact h.elim
    | (obtain ⟨_, _, _, _, _, _, _, _, _, _, _, _, z⟩ := h; exact z.elim)
end DL

/-! DL11: what is never reached; a comprehension stored in a cell; the names of the boot. -/
namespace DL
open PySem PySem.Spec PyProof.Rows L2 TL
set_option autoImplicit false
section
variable {C : Ctx} {e tg : Expr} {es : List Expr}
def gNev : DEnv → M Rv := fun _ => fail
def gNevT : DEnv → M Bool := fun _ => fail
def gNevI : DEnv → M (List D) := fun _ => fail
def sNev : GS := fun _ _ => none
theorem de_never : DE C e gNev := fun X W ok tk => ⟨fun pins s σ H Q I h => by
  obtain ⟨H0, F, ρ, δ, st, S, P⟩ := h
  exact P.elim⟩
theorem dt_never : DT C e gNevT := fun X W ok tk => ⟨fun pins s σ H Q I h => by
  obtain ⟨H0, F, ρ, δ, st, S, P⟩ := h
  exact P.elim⟩
theorem di_never : DI C tg e gNevI := fun X W ok tk => ⟨fun pins s σ H Q I h => by
  obtain ⟨H0, F, ρ, δ, st, S, P⟩ := h
  exact P.elim⟩
theorem da_never : DA C es (fun _ => fail) := fun X W ok tk => ⟨fun pos pins s σ H Q I h => by
  obtain ⟨H0, F, ρ, δ, st, S, P⟩ := h
  exact P.elim⟩
theorem ds_nev {s : Stmt} : DS C s sNev := ds_never
end
section
variable {C : Ctx} {tg iter elt : Expr} {ifs : List Expr} {gi : DEnv → M (List D)} {t : GT} {tt : DEnv → M Bool} {te : DEnv → M Rv} {pos : Pos} {T : List Nat} {scope : Scope} {own : List (Str × Nat)} {y : Str} {py spos : Pos} {k : Nat}
theorem sw_cell {sc : Scope} {l : Nat} {env : Env} {gs : List Comprehension} (hy : env.scope.names.lookup y = some .cell) : swapsWith (.ListComp elt gs sc pos) (some (.Name y py)) l env = pure false := by
  have ky : env.kindOf y = some .cell := hy
  unfold swapsWith
  simp only [ky]
  cases env.blockKind <;> rfl
/-- a comprehension stored to a name that inner blocks read -/
theorem ds_setLcC (hN : C.N[k]? = some y) (hy : C.sc.names.lookup y = some .cell) (ht : C.top y = true) {gs : List Comprehension} {ga : DEnv → M Rv} (ha : DE C (.ListComp elt gs scope pos) ga) :
    DS C (.Assign [.Name y py] (.ListComp elt gs scope pos) spos) (sSet k ga) := fun X W ok tk =>
  psW (ps_set (i := k) (by rw [ok.N]; exact ok.nd) (by rw [ok.N]; exact hN) (ok.loc (.inr ⟨ht, hy⟩)) (ha X W ok tk) (sw_cell (by rw [ok.sc]; exact hy)) (ok.fn (.inr ⟨ht, hy⟩))) fun D σ H h => set_rd h
end
theorem bt_len : bootBuiltins "len" = some (.builtin "len") := by decide +kernel
theorem bt_all : bootBuiltins "all" = some (.builtin "all") := by decide +kernel
theorem bt_any : bootBuiltins "any" = some (.builtin "any") := by decide +kernel
theorem bt_sum : bootBuiltins "sum" = some (.builtin "sum") := by decide +kernel
theorem bt_abs : bootBuiltins "abs" = some (.builtin "abs") := by decide +kernel
theorem bt_ord : bootBuiltins "ord" = some (.builtin "ord") := by decide +kernel
theorem bt_sorted : bootBuiltins "sorted" = some (.builtin "sorted") := by decide +kernel
theorem bt_isinstance : bootBuiltins "isinstance" = some (.builtin "isinstance") := by decide +kernel
theorem bt_list : bootBuiltins "list" = some (.type "list") := by decide +kernel
theorem bt_tuple : bootBuiltins "tuple" = some (.type "tuple") := by decide +kernel
theorem bt_int : bootBuiltins "int" = some (.type "int") := by decide +kernel
theorem bt_str : bootBuiltins "str" = some (.type "str") := by decide +kernel
theorem bt_bool : bootBuiltins "bool" = some (.type "bool") := by decide +kernel
theorem bt_dict : bootBuiltins "dict" = some (.type "dict") := by decide +kernel
end DL

/-! DL12: paths in a text, a law's end in every world. -/
namespace DL
open PySem PySem.Spec PyProof.Rows L2 TL
set_option autoImplicit false
def HD (K : PySem.W.Frag) (mg : Str → Option Value) (x : Str) (st : Stmt) : Prop := ∃ fa fd, FnP K x st fa fd ∧ mg x = some (.ref fa)
def sAt (ss : List Stmt) (i : Nat) : Stmt := ss.getD i (.Pass ⟨0, 0, 0, 0⟩)
def bodyOf : Stmt → List Stmt
  | .For _ _ b _ _ => b
  | .While _ b _ _ => b
  | .If _ b _ _ => b
  | .Try b _ _ _ _ => b
  | _ => []
def elseOf : Stmt → List Stmt
  | .For _ _ _ b _ => b
  | .While _ _ b _ => b
  | .If _ _ b _ => b
  | .Try _ _ b _ _ => b
  | _ => []
theorem le_lev {a b c : Nat} (h : a ≤ b) : a ≤ b + c + 1 := by omega
/-- a law's end: the promise in every world -/
theorem walkW {l : PySem.W.OpenLaw} {n k : Nat} {q : Program} {loose : List Str} {XP : (Str → Option Value) → Heap → Prop} {YP : World → Heap → Prop} {d : DefRec} {x : Str}
    (hn : l.most = some n) (hn2 : n ≤ sizeLine) (hdf : d.params.defaults = []) (hr : Room k callerA)
    (G : ∀ (w : World) (mg : Str → Option Value) (fa : Addr) (h : Heap), YP w h → h.Ns mainGlobals mg → mg d.name = some (.ref fa) →
      ∃ (K : PySem.W.Frag) (fd : FuncData) (sp : Sp), K.In h ∧ (∀ (s : Shared) (u : Value), BindsTo s fd ⟨[u], []⟩ [(x, u)]) ∧
        (∀ (H : Hp) (a : Addr) (ns : List Int), ns.length ≤ n → Only H → SqL K H a (ns.map V.int) → sp [.ref a] H (fun v _ => v = .bl true) fun _ _ _ => False) ∧
        ∀ base : Heap, K.In base → base.Ns mainGlobals mg → FnOk l.prog w K mg base (L2.CX l.prog w) k fa fd [x] sp) :
    PySem.W.WalkO q loose XP YP l.row.toRowW d [] (fun f vs => PySem.call f vs) :=
  Att.attach_call hn hdf fun w s₀ s₁ mg mb fa o pm cd doc a vs ns T Y _ _ _ hmg hobj hints hlen hg => by
    obtain ⟨K, fd, sp, h1, h2, h3, h4⟩ := G w mg fa _ Y T.T.g hmg
    exact law_call h1 T.T.g T.T.b T.T.builtins T.T.nolimit hg hobj hints (Nat.le_trans hlen hn2) hr h4 h2 (fun H hO hS => h3 H a ns hlen hO hS) fun H e s' z => CX_none H s₁ e s' z
end DL

/-! DL13: list(text). -/
namespace DL
open PySem PySem.Spec PyProof.Rows L2 TL
set_option autoImplicit false
def chrD (s : List Nat) : List D := s.map fun c => .str [c]
def chrV (s : List Nat) : List V := s.map fun c => .str ⟨#[c]⟩
theorem reps_chr {g : GG} {F : Hp} {ρ : List Addr} : ∀ s : List Nat, Reps g F ρ (chrD s) (chrV s)
  | [] => .nil
  | c :: s => .cons (.str (s := [c])) (reps_chr s)
theorem vals_of_at : ∀ {vs : List V} {us : List Value}, us.length = vs.length → (∀ (j : Nat) (u : Value), us[j]? = some u → ∃ v, vs[j]? = some v ∧ RelV v u) → Vals vs us
  | [], [], _, _ => .nil
  | v :: vs, u :: us, e, h => by
    refine .cons ?_ (vals_of_at (by simpa using e) fun j w hw => by simpa using h (j + 1) w (by simpa using hw))
    obtain ⟨v', h1, h2⟩ := h 0 u rfl
    cases h1
    exact h2
  | _ :: _, [], e, _ => by cases e
  | [], _ :: _, e, _ => by cases e
theorem call_list_s {X : Cx} (hc : X.calm = true) : CallR X (.type "list") (fun xs H Q => ∃ s : List Nat, xs = [.str ⟨s.toArray⟩] ∧ s.length ≤ sizeLine ∧ ∀ p, H p = none → Q (.ref p) (upd H p (.lst (chrV s)))) := by
  intro pins st σ H xs us Q I r h
  obtain ⟨s, rfl, hz, q⟩ := h
  obtain ⟨u, rfl, t, rfl⟩ := vals1 r
  refine PySem.call_list_str (I.ok.hd hc) ⟨s.toArray⟩ t (fun h' tk acc' c' hk hS hacc => ?_) (by simpa using hz)
  have hl : acc'.size = s.length := by simpa using hacc.1
  have hv : Vals (chrV s) acc'.toList := by
    refine vals_of_at (by rw [Array.length_toList, hl]; simp [chrV]) fun j v e => ?_
    rw [Array.getElem?_toList] at e
    obtain ⟨c, k, h1, rfl⟩ := hacc.2 j v e
    have h2 : s[j]? = some c := by simpa using h1
    exact ⟨.str ⟨#[c]⟩, by unfold chrV; rw [List.getElem?_map, h2]; rfl, ⟨k, rfl⟩⟩
  refine ⟨.ref st.heap.objs.size, upd H st.heap.objs.size (.lst (chrV s)), I.laid (t' := tk) hk (Nat.le_refl _) (show ObjOk X.prog X.w _ _ _ (.lst (chrV s)) from ⟨by unfold chrV; rw [List.length_map]; exact hz, acc'.toList, c', hv, by rw [Array.toArray_toList]; exact hS⟩), rfl, q _ (I.hok.fresh (Nat.le_refl _))⟩
def kListS : KN := k1 fun δ x st => (opt x.asS fun s => if s.length ≤ LIM then ret (.ow (.lst (chrD s))) else fail) st
theorem ok_listS {C : Ctx} (hh : C.hot = false := by rfl) : FnK C (.type "list") kListS := fnK1 fun X ok => ⟨_, call_list_s (ok.calm hh), fun W H0 F ρ δ st σ H Hs x v Q S R P => by
  obtain ⟨s, e1, P⟩ := opt_ok P
  split at P
  · rename_i hl
    exact ⟨s, by rw [asS_v R e1], by rw [lim_eq]; exact hl, fun p np => new_own P S (reps_chr s) p np⟩
  · exact P.elim⟩
def isStr1 (_ : DEnv) (rs : List Rv) : Bool := match rs with
  | [x] => x.asS.isSome
  | _ => false
def kListA : KN := fun δ rs => if isStr1 δ rs then kListS δ rs else kList δ rs
theorem ok_listA {C : Ctx} (hh : C.hot = false := by rfl) : FnK C (.type "list") kListA := (ok_listS hh).or ok_list
end DL

/-! DL14: x, y = a, b. -/
namespace DL
open PySem PySem.Spec PyProof.Rows L2 TL
set_option autoImplicit false
theorem swap2 {env : Env} {x y : Str} {a b : Expr} {px py pt pt2 : Pos} {kt k2 : Nat} (hk : env.scope.kind = .function) (hx : env.scope.names.lookup x = some .local) (hy : env.scope.names.lookup y = some .local) (hl : (py.line == px.line) = true) (hne : (y == x) = false)
    (ha : noStar a = true) (hb' : noStar b = true) (hf : [a, b].all (foldedForSure 8) = false) (hc : [a, b].all (constantsAlone 8) = false) : swappedStores [.Tuple [.Name x px, .Name y py] kt pt] (.Tuple [a, b] k2 pt2) env = pure (some [x, y]) := by
  have kx : env.kindOf x = some .local := hx
  have ky : env.kindOf y = some .local := hy
  have hb : env.blockKind = .function := by unfold Env.blockKind; rw [hk]; rfl
  have hl2 : py.line = px.line := by simpa using hl
  have hd : [x, y].eraseDups = [x, y] := by
    have : ¬ y = x := by simpa using hne
    simp [List.eraseDups, List.eraseDupsBy, List.eraseDupsBy.loop, hne]
  unfold swappedStores
  simp only [hb, hf, hc, kx, ky, hl2, List.filterMap, List.head?, Option.map, Option.getD, Expr.pos]
  simp
  rw [if_neg, hd]
  · rfl
  · rintro (h | h)
    · split at h
      · cases ha
      · cases h
    · split at h
      · cases hb'
      · cases h
/-- x, y = a, b: both values first -/
def sPar (i j : Nat) (gs : DEnv → M (List Rv)) : GS := fun δ => sBnd (gs δ) δ fun rs st => match allD rs with
  | some [d, e] => some (.nx ((δ.set i (some (.fz d))).set j (some (.fz e))), st)
  | _ => none
section
variable {C : Ctx} {x y : Str} {a b : Expr} {px py pt pt2 pos : Pos} {kt k2 i j : Nat} {gs : DEnv → M (List Rv)}
theorem ds_par (hi : C.N[i]? = some x) (hj : C.N[j]? = some y) (hx : C.sc.names.lookup x = some .local) (hy : C.sc.names.lookup y = some .local) (hk : C.sc.kind = .function) (ha : DA C [a, b] gs)
    (hij : Nat.beq i j = false := by rfl) (hl : (py.line == px.line) = true := by rfl) (hne : (y == x) = false := by decide) (na : noStar a = true := by rfl) (nb : noStar b = true := by rfl) (hf : [a, b].all (foldedForSure 8) = false := by rfl) (hc : [a, b].all (constantsAlone 8) = false := by rfl) (hh : C.hot = false := by rfl) :
    DS C (.Assign [.Tuple [.Name x px, .Name y py] kt pt] (.Tuple [a, b] k2 pt2) pos) (sPar i j gs) := fun X W ok tk => by
  have hsw := swap2 (env := X.env) (px := px) (py := py) (pt := pt) (pt2 := pt2) (kt := kt) (k2 := k2) (by rw [ok.sc]; exact hk) (by rw [ok.sc]; exact hx) (by rw [ok.sc]; exact hy) hl hne na nb hf hc
  refine psW (ps_par (ok.calm hh) (by rw [ok.N]; exact ok.nd) (by rw [ok.N]; exact hi) (by rw [ok.N]; exact hj) (Nat.ne_of_beq_eq_false hij) (by rw [ok.sc]; exact hx) (by rw [ok.sc]; exact hy) (ha X W ok tk) hsw) fun D σ H ⟨E, F, ρ, δ, st, A, S, P⟩ => ?_
  refine ⟨E.H0, F, ρ, δ, st, S, PostS_bndA A P fun F' ρ' st' H' vs rs A0 A' S' R' P' => ?_⟩
  cases q : allD rs with
  | none => rw [q] at P'; exact P'.elim
  | some ds =>
    rw [q] at P'
    match ds, q, P' with
    | [d, e], q, P' =>
      have r := allD_ok R' q
      match vs, r with
      | [v, w], .cons r1 (.cons r2 .nil) =>
        refine ⟨v, w, rfl, P' _ ρ' F' H' A' ?_⟩
        have s1 := set_ok (i := i) (r := .fz d) (ρ0 := ρ') (F0 := F') (fun c z => nomatch z) S' .refl S' r1 rfl
        exact set_ok (i := j) (r := .fz e) (ρ0 := ρ') (F0 := F') (fun c z => nomatch z) s1 .refl s1 r2 rfl
    | [], _, P' => exact P'.elim
    | [_], _, P' => exact P'.elim
    | _ :: _ :: _ :: _, _, P' => exact P'.elim
end
end DL

/-! DL15: a method that changes a new list which nobody keeps. -/
namespace DL
open PySem PySem.Spec PyProof.Rows L2 TL
set_option autoImplicit false
/-- (a new list).append(e): nothing is left of it -/
def sOwnT (ga : DEnv → M Rv) (gs : DEnv → M (List Rv)) (f : List D → List D → Option (List D)) : GS := fun δ => sBnd (ga δ) δ fun r => match r with
  | .ow (.lst ds) => sBnd (gs δ) δ fun rs st => match (allD rs).bind (f ds) with
    | some _ => some (.nx δ, st)
    | none => none
  | _ => fun _ => none
section
variable {C : Ctx} {o e : Expr} {es : List Expr} {ga : DEnv → M Rv} {gs : DEnv → M (List Rv)} {pos apos p1 : Pos} {m : Str} {id : String} {f : List D → List D → Option (List D)}
theorem ds_ownT {r : V → List V → Hp → VK → Prop} (slot : Slot "list" m id) (hty : typeOf (.builtin id) = pure (.type "method_descriptor")) (hm : ∀ X, CtxOk C X → MtR X id r) (mu : MutL r f)
    (ho : DE C o ga) (ha : DA C (e :: es) gs) (hsup : noSup o = true := by rfl) (hs : (e :: es).all noStar = true := by rfl) (hl : decide ((e :: es).length < 30) = true := by rfl) (hline : (apos.endLine == p1.line) = true := by rfl) :
    DS C (.Expr (.Call (.Attribute o m apos) (e :: es) [] p1) pos) (sOwnT ga gs f) := fun X W ok tk => by
  have hs2 : noStar e = true ∧ es.all noStar = true := by rw [List.all_cons, Bool.and_eq_true] at hs; exact hs
  refine psW (ps_expr (pe_bm PySem.F.plainAttrs_list slot hty (hm X ok) (ho X W ok tk) (ha X W ok tk) (base_ok hsup) (few_ok hs hl) hline (star_eq hs2.1) (star_none (e := e) hs2.2)) rfl) fun D σ H ⟨E, F, ρ, δ, st, A, S, P⟩ => ?_
  unfold sOwnT at P
  refine ⟨E.H0, F, ρ, δ, st, S, PostS_bnd A P fun F1 ρ1 st1 H1 v x A1 A1' S1 R1 P1 => ?_⟩
  match x, R1, P1 with
  | .ow (.lst ds), R1, P1 =>
    obtain ⟨a, rfl, e2, e3, e4, xs, e5, e6⟩ := R1
    refine ⟨.inl ⟨rfl, xs, .of e5⟩, E.H0, F1, ρ1, δ, st1, S1, PostS_bndA A1' P1 fun F2 ρ2 st2 H2 vs rs A2 A2' S2 R2 P2 => ?_⟩
    cases q3 : allD rs with
    | none => rw [q3] at P2; exact P2.elim
    | some es' =>
      rw [q3] at P2
      have r3 := allD_ok R2 q3
      cases q4 : f ds es' with
      | none => rw [show (some es').bind (f ds) = f ds es' from rfl, q4] at P2; exact P2.elim
      | some ds' =>
        rw [show (some es').bind (f ds) = f ds es' from rfl, q4] at P2
        have e5' := A2.hk _ _ e5 e3
        refine mu _ F2 ρ2 ds es' ds' xs vs a H2 _ S2.fs e5' (e6.mono A2.ff A2.ex) r3 q4 fun ys ry => ?_
        have n2 := A2.nmem e3 e5
        have f2 := A2.unf e5 e3 e2
        have bE : E.H0 a = none := A.a.back (fun z => e3 (A1.mem (A.a.mem z))) e4
        have ns : ∀ (i : Nat) (c : Con), δ[i]? = some (some (.ow c)) → σ[i]? ≠ some (some (.ref a)) := fun i c q z => by
          obtain ⟨u, u1, b, rfl, _, _, _, k⟩ := S.slot i _ q
          rw [z] at u1; cases u1
          obtain ⟨o', ho'⟩ := k.there
          rw [e4] at ho'; cases ho'
        exact P2 σ ρ2 F2 _ ⟨A2'.a.fill bE, A2'.b, A2'.p⟩ (S2.fill f2 n2 ns)
  | .ow (.dk _), _, P1 => exact P1.elim
  | .ow (.dt _), _, P1 => exact P1.elim
  | .ow (.obj _ _), _, P1 => exact P1.elim
  | .fz _, _, P1 => exact P1.elim
  | .vw _, _, P1 => exact P1.elim
theorem ds_appendT (ho : DE C o ga) (ha : DA C [e] gs) (hsup : noSup o = true := by rfl) (hs : [e].all noStar = true := by rfl) (hline : (apos.endLine == p1.line) = true := by rfl) :
    DS C (.Expr (.Call (.Attribute o "append" apos) [e] [] p1) pos) (sOwnT ga gs fAppend) :=
  ds_ownT PySem.F.slot_list_append PySem.F.type_list_append (fun X ok => mt_append) mu_append ho ha hsup hs rfl hline
end
end DL

/-! DL16: == of plain data, by a plain function. -/
namespace DL
open PySem PySem.Spec PyProof.Rows L2 TL
set_option autoImplicit false
/-- plain data of a depth -/
def D.ok : Nat → D → Bool
  | _, .non => true
  | _, .bl _ => true
  | _, .int _ => true
  | _, .str s => s.all fun c => decide (c < 0x110000)
  | n + 1, .tup ds => ds.all (D.ok n)
  | n + 1, .lst ds => ds.all (D.ok n)
  | _, _ => false
def ib (b : Bool) : Int := if b then 1 else 0
mutual
def deq : D → D → Bool
  | .non, e => match e with | .non => true | _ => false
  | .bl a, e => match e with | .bl b => a == b | .int j => decide (ib a = j) | _ => false
  | .int i, e => match e with | .int j => decide (i = j) | .bl b => decide (i = ib b) | _ => false
  | .str s, e => match e with | .str t => decide (s = t) | _ => false
  | .tup xs, e => match e with | .tup ys => deqs xs ys | _ => false
  | .lst xs, e => match e with | .lst ys => deqs xs ys | _ => false
  | .rol _, _ => false
  | .obj _ _, _ => false
  | .dk _, _ => false
  | .dt _, _ => false
  | .loc _, _ => false
  | .ty _, _ => false
  | .exc _ _, _ => false
  | .tab _ _, _ => false
def deqs : List D → List D → Bool
  | [], es => match es with | [] => true | _ :: _ => false
  | d :: ds, es => match es with | [] => false | e :: es => deq d e && deqs ds es
end
theorem ok_mono : ∀ {n m : Nat} {d : D}, n ≤ m → D.ok n d = true → D.ok m d = true
  | 0, m, d, _, h => by cases d <;> first | (simp [D.ok] at h; done) | (simpa [D.ok] using h)
  | n + 1, 0, d, hm, h => by omega
  | n + 1, m + 1, .non, hm, h => by simp [D.ok]
  | n + 1, m + 1, .bl _, hm, h => by simp [D.ok]
  | n + 1, m + 1, .int _, hm, h => by simp [D.ok]
  | n + 1, m + 1, .str _, hm, h => by simpa [D.ok] using h
  | n + 1, m + 1, .tup ds, hm, h => by
    rw [D.ok, List.all_eq_true] at h ⊢
    exact fun x hx => ok_mono (by omega) (h x hx)
  | n + 1, m + 1, .lst ds, hm, h => by
    rw [D.ok, List.all_eq_true] at h ⊢
    exact fun x hx => ok_mono (by omega) (h x hx)
  | n + 1, m + 1, .rol _, hm, h => by cases h
  | n + 1, m + 1, .obj _ _, hm, h => by cases h
  | n + 1, m + 1, .dk _, hm, h => by cases h
  | n + 1, m + 1, .dt _, hm, h => by cases h
  | n + 1, m + 1, .loc _, hm, h => by cases h
  | n + 1, m + 1, .ty _, hm, h => by cases h
  | n + 1, m + 1, .exc _ _, hm, h => by cases h
  | n + 1, m + 1, .tab _ _, hm, h => by cases h
theorem str_ok {s : List Nat} (h : (s.all fun c => decide (c < 0x110000)) = true) : PySem.PyData.strOk ⟨s.toArray⟩ = true := by
  unfold PySem.PyData.strOk
  simpa using h
theorem ok_py : ∀ {n : Nat} {d : D}, D.ok n d = true → ∃ p, d.py = some p ∧ p.canLay0 = true ∧ p.depth ≤ n
  | n, .non, _ => ⟨_, by rw [D.py], by simp [PyData.canLay0], by simp [PyData.depth]⟩
  | n, .bl _, _ => ⟨_, by rw [D.py], by simp [PyData.canLay0], by simp [PyData.depth]⟩
  | n, .int _, _ => ⟨_, by rw [D.py], by simp [PyData.canLay0], by simp [PyData.depth]⟩
  | n, .str s, h => ⟨_, by rw [D.py], by
      have : (s.all fun c => decide (c < 0x110000)) = true := by cases n <;> simpa [D.ok] using h
      simpa [PyData.canLay0] using str_ok this, by simp [PyData.depth]⟩
  | n + 1, .tup ds, h => by
    rw [D.ok] at h
    have key : ∀ l : List D, l.all (D.ok n) = true → ∃ ps, pyAll l = some ps ∧ PyData.canLayAll0 ps = true ∧ PyData.depthAll ps ≤ n := by
      intro l
      induction l with
      | nil => exact fun _ => ⟨[], by rw [pyAll], by simp [PyData.canLayAll0], by simp [PyData.depthAll]⟩
      | cons d l ih =>
        intro h
        rw [List.all_cons, Bool.and_eq_true] at h
        obtain ⟨p, h1, h2, h3⟩ := ok_py h.1
        obtain ⟨ps, h4, h5, h6⟩ := ih h.2
        exact ⟨p :: ps, by rw [pyAll, h1, h4], by simp [PyData.canLayAll0, h2, h5], by simp [PyData.depthAll]; omega⟩
    obtain ⟨ps, h1, h2, h3⟩ := key ds h
    exact ⟨_, by rw [D.py, h1]; rfl, by simpa [PyData.canLay0] using h2, by simp [PyData.depth]; omega⟩
  | n + 1, .lst ds, h => by
    rw [D.ok] at h
    have key : ∀ l : List D, l.all (D.ok n) = true → ∃ ps, pyAll l = some ps ∧ PyData.canLayAll0 ps = true ∧ PyData.depthAll ps ≤ n := by
      intro l
      induction l with
      | nil => exact fun _ => ⟨[], by rw [pyAll], by simp [PyData.canLayAll0], by simp [PyData.depthAll]⟩
      | cons d l ih =>
        intro h
        rw [List.all_cons, Bool.and_eq_true] at h
        obtain ⟨p, h1, h2, h3⟩ := ok_py h.1
        obtain ⟨ps, h4, h5, h6⟩ := ih h.2
        exact ⟨p :: ps, by rw [pyAll, h1, h4], by simp [PyData.canLayAll0, h2, h5], by simp [PyData.depthAll]; omega⟩
    obtain ⟨ps, h1, h2, h3⟩ := key ds h
    exact ⟨_, by rw [D.py, h1]; rfl, by simpa [PyData.canLay0] using h2, by simp [PyData.depth]; omega⟩
  | 0, .tup _, h => by cases h
  | 0, .lst _, h => by cases h
  | 0, .rol _, h => by cases h
  | 0, .obj _ _, h => by cases h
  | 0, .dk _, h => by cases h
  | 0, .dt _, h => by cases h
  | 0, .loc _, h => by cases h
  | 0, .ty _, h => by cases h
  | 0, .exc _ _, h => by cases h
  | 0, .tab _ _, h => by cases h
  | n + 1, .rol _, h => by cases h
  | n + 1, .obj _ _, h => by cases h
  | n + 1, .dk _, h => by cases h
  | n + 1, .dt _, h => by cases h
  | n + 1, .loc _, h => by cases h
  | n + 1, .ty _, h => by cases h
  | n + 1, .exc _ _, h => by cases h
  | n + 1, .tab _ _, h => by cases h
theorem ok_shaped {d : D} (h : D.ok 64 d = true) : d.shaped = true := by
  obtain ⟨p, h1, h2, h3⟩ := ok_py h
  unfold D.shaped
  rw [h1]
  unfold SeqAt.shaped
  simp [h2, h3]
mutual
theorem eqv_deq : ∀ {d e : D} {p q : PyData}, d.py = some p → e.py = some q → PyData.eqv p q = deq d e
  | .non, e, p, q, h, k => by
    rw [D.py] at h; cases h
    cases e <;> rw [D.py] at k <;> first | (cases k; simp [PyData.eqv, deq]; done) | (cases k; done) | (obtain ⟨x, _, rfl⟩ := Option.map_eq_some_iff.mp k; simp [PyData.eqv, deq])
  | .bl a, e, p, q, h, k => by
    rw [D.py] at h; cases h
    cases e <;> rw [D.py] at k <;> first | (cases k; simp [PyData.eqv, deq, ib]; done) | (cases k; rw [deq, PyData.eqv]; cases a <;> rfl; done) | (cases k; done) | (obtain ⟨x, _, rfl⟩ := Option.map_eq_some_iff.mp k; simp [PyData.eqv, deq])
  | .int i, e, p, q, h, k => by
    rw [D.py] at h; cases h
    cases e <;> rw [D.py] at k <;> first | (cases k; simp [PyData.eqv, deq, ib]; done) | (cases k; rw [deq, PyData.eqv]; rfl; done) | (cases k; done) | (obtain ⟨x, _, rfl⟩ := Option.map_eq_some_iff.mp k; simp [PyData.eqv, deq])
  | .str s, e, p, q, h, k => by
    rw [D.py] at h; cases h
    cases e with
    | str t =>
      rw [D.py] at k; cases k
      rw [deq, PyData.eqv]
      by_cases z : s = t
      · subst z; simp
      · have : ¬ (⟨s.toArray⟩ : Str) = ⟨t.toArray⟩ := fun e => z (by
          have := congrArg (fun x : Str => x.cps.toList) e
          simpa using this)
        simp [z]
    | tup _ => rw [D.py] at k; obtain ⟨x, _, rfl⟩ := Option.map_eq_some_iff.mp k; simp [PyData.eqv, deq]
    | lst _ => rw [D.py] at k; obtain ⟨x, _, rfl⟩ := Option.map_eq_some_iff.mp k; simp [PyData.eqv, deq]
    | _ => rw [D.py] at k; first | (cases k; simp [PyData.eqv, deq]; done) | cases k
  | .tup ds, e, p, q, h, k => by
    rw [D.py] at h
    obtain ⟨ps, h1, rfl⟩ := Option.map_eq_some_iff.mp h
    cases e with
    | tup es =>
      rw [D.py] at k
      obtain ⟨qs, k1, rfl⟩ := Option.map_eq_some_iff.mp k
      rw [deq, PyData.eqv]
      exact eqvs_deqs h1 k1
    | lst _ => rw [D.py] at k; obtain ⟨x, _, rfl⟩ := Option.map_eq_some_iff.mp k; simp [PyData.eqv, deq]
    | _ => rw [D.py] at k; first | (cases k; simp [PyData.eqv, deq]; done) | cases k
  | .lst ds, e, p, q, h, k => by
    rw [D.py] at h
    obtain ⟨ps, h1, rfl⟩ := Option.map_eq_some_iff.mp h
    cases e with
    | lst es =>
      rw [D.py] at k
      obtain ⟨qs, k1, rfl⟩ := Option.map_eq_some_iff.mp k
      rw [deq, PyData.eqv]
      exact eqvs_deqs h1 k1
    | tup _ => rw [D.py] at k; obtain ⟨x, _, rfl⟩ := Option.map_eq_some_iff.mp k; simp [PyData.eqv, deq]
    | _ => rw [D.py] at k; first | (cases k; simp [PyData.eqv, deq]; done) | cases k
  | .rol _, _, _, _, h, _ => by rw [D.py] at h; cases h
  | .obj _ _, _, _, _, h, _ => by rw [D.py] at h; cases h
  | .dk _, _, _, _, h, _ => by rw [D.py] at h; cases h
  | .dt _, _, _, _, h, _ => by rw [D.py] at h; cases h
  | .loc _, _, _, _, h, _ => by rw [D.py] at h; cases h
  | .ty _, _, _, _, h, _ => by rw [D.py] at h; cases h
  | .exc _ _, _, _, _, h, _ => by rw [D.py] at h; cases h
  | .tab _ _, _, _, _, h, _ => by rw [D.py] at h; cases h
theorem eqvs_deqs : ∀ {ds es : List D} {ps qs : List PyData}, pyAll ds = some ps → pyAll es = some qs → PyData.eqvAll ps qs = deqs ds es
  | [], es, ps, qs, h, k => by
    rw [pyAll] at h; cases h
    cases es with
    | nil => rw [pyAll] at k; cases k; simp [PyData.eqvAll, deqs]
    | cons e es =>
      rw [pyAll] at k
      split at k
      · cases k; simp [PyData.eqvAll, deqs]
      · cases k
  | d :: ds, es, ps, qs, h, k => by
    rw [pyAll] at h
    split at h
    · rename_i p ps' h1 h2
      cases h
      cases es with
      | nil => rw [pyAll] at k; cases k; simp [PyData.eqvAll, deqs]
      | cons e es =>
        rw [pyAll] at k
        split at k
        · rename_i q qs' k1 k2
          cases k
          rw [PyData.eqvAll, deqs, eqv_deq h1 k1, eqvs_deqs h2 k2]
        · cases k
    · cases h
end
theorem eqv_ok {n m : Nat} {d e : D} (h : D.ok n d = true) (k : D.ok m e = true) : d.eqv e = deq d e := by
  obtain ⟨p, h1, _⟩ := ok_py h
  obtain ⟨q, k1, _⟩ := ok_py k
  unfold D.eqv
  rw [h1, k1]
  exact eqv_deq h1 k1
/-- == of plain data -/
def kEqP (n : Bool) : K2 := fun δ x y => opt (x.dat δ) fun d => opt (y.dat δ) fun e => if D.ok 64 d && D.ok 64 e then rbv (xor n (deq d e)) else fail
def kEq' (n : Bool) : K2 := kOr (kI fun i j => rbv (xor n (decide (i = j)))) (kOr (kS fun s t => rbv (xor n (decide (s = t)))) (kEqP n) isSS) isII
theorem eqP_le {n : Bool} {δ : DEnv} {x y : Rv} {st : Sto} {o : Res Rv × Sto} (h : kEqP n δ x y st = some o) : kEqD n δ x y st = some o := by
  unfold kEqP at h
  unfold kEqD
  cases q : x.dat δ with
  | none => rw [q] at h; cases h
  | some d =>
    cases q2 : y.dat δ with
    | none => rw [q, q2] at h; cases h
    | some e =>
      rw [q, q2] at h
      have h' : (if D.ok 64 d && D.ok 64 e then rbv (xor n (deq d e)) else fail) st = some o := h
      show (if d.shaped && e.shaped then rbv (xor n (d.eqv e)) else fail) st = some o
      split at h'
      · rename_i hz
        rw [Bool.and_eq_true] at hz
        rw [if_pos (by rw [ok_shaped hz.1, ok_shaped hz.2]; rfl), eqv_ok hz.1 hz.2]
        exact h'
      · cases h'
theorem eq'_le {n : Bool} {δ : DEnv} {x y : Rv} {st : Sto} {o : Res Rv × Sto} (h : kEq' n δ x y st = some o) : kEq n δ x y st = some o := by
  unfold kEq' kOr at h
  unfold kEq kOr
  split at h
  · rename_i hz; rw [if_pos hz]; exact h
  · rename_i hz
    rw [if_neg hz]
    split at h
    · rename_i hy; rw [if_pos hy]; exact h
    · rename_i hy; rw [if_neg hy]; exact eqP_le h
/-- a reading that asks more -/
theorem CmpK.less {C : Ctx} {op : CmpOp} {k k' : K2} (h : CmpK C op k) (l : ∀ {δ x y st o}, k' δ x y st = some o → k δ x y st = some o) : CmpK C op k' := fun X ok => by
  obtain ⟨r, h1, h2⟩ := h X ok
  refine ⟨r, h1, fun W H0 F ρ δ st σ H Hs Ht x y v u Q S R R' P => ?_⟩
  cases q : k' δ x y st with
  | none => rw [q] at P; exact P.elim
  | some o =>
    rw [q] at P
    refine h2 W H0 F ρ δ st σ H Hs Ht x y v u Q S R R' ?_
    rw [l q]
    exact P
theorem ok_eq' {C : Ctx} : CmpK C .Eq (kEq' false) := ok_eq.less eq'_le
theorem ok_ne' {C : Ctx} : CmpK C .NotEq (kEq' true) := ok_ne.less eq'_le
end DL

/-! DL17: e[::-1], list(range), reversed. -/
namespace DL
open PySem PySem.Spec PyProof.Rows L2 TL
set_option autoImplicit false
theorem rev_idx (n : Nat) : Builtin.Str.strSliceIndices none none (-1) n = (List.range n).reverse := by
  show sliceRange ((n : Int) - 1) (-1) (-1) = _
  rw [PySem.W.krv_sliceRange, PySem.W.krv_range]
theorem range_pick {α : Type} (xs : Array α) : (List.range xs.size).filterMap (xs[·]?) = xs.toList := PySem.W.krv_all xs
/-- a list or a text from its end -/
def rRevA (K : PySem.W.Frag) : V → Hp → VK → Prop := fun x H Q => (∃ a xs, x = .ref a ∧ SqL K H a xs ∧ ∀ p, H p = none → Q (.ref p) (upd H p (.lst xs.reverse))) ∨ (∃ s : List Nat, x = .str ⟨s.toArray⟩ ∧ s.length ≤ sizeLine ∧ Q (.str ⟨s.reverse.toArray⟩) H)
theorem pe_revA {X : Cx} {e : Expr} {te : TE} {k : Nat} {p1 p2 p3 pos : Pos} (he : PE X e te) : PE X (.Subscript e (.Slice none none (some (.UnaryOp .USub (.Constant (.int 1) k p1) p2)) p3) pos) (fun σ H Q => te σ H fun x H1 => rRevA X.K x H1 Q) := by
  refine ⟨fun pins s σ H Q I h => ?_⟩
  refine Subscript_ (thn (he.run pins s σ H _ I h) fun v s1 ⟨x, H1, I1, r1, q1⟩ => ?_)
  have hst : PO X (some (.UnaryOp .USub (.Constant (.int 1) k p1) p2)) (tPart (tUn (rU fun i => .int (-i)) (tC (.int 1)))) := po_some (pe_un un_neg pe_int)
  refine wpAny_Slice (thn (po_none.run pins s1 σ H1 (fun o H2 => o = none ∧ H2 = H1) I1 ⟨rfl, rfl⟩) fun vl s2 ⟨l, H2, I2, pl, el, e2⟩ => ?_)
  subst el e2
  refine thn (po_none.run pins s2 σ H2 (fun o H3 => o = none ∧ H3 = H2) I2 ⟨rfl, rfl⟩) fun vu s3 ⟨u, H3, I3, pu, eu, e3⟩ => ?_
  subst eu e3
  refine thn (hst.run pins s3 σ H3 (fun o H4 => o = some (-1) ∧ H4 = H3) I3 ⟨1, rfl, -1, rfl, rfl, rfl⟩) fun vs s4 ⟨o, H4, I4, ps, eo, e4⟩ => ?_
  subst eo e4
  have I5 : Inv X pins σ H4 { s4 with heap := s4.heap.push { cls := .type "slice", data := .fields #[vl, vu, vs] } } := I4.kept (t' := s4.toks) fun b ob q => Heap.get?_push_of_some _ q
  rcases q1 with ⟨a, xs, ex, hx, q⟩ | ⟨z, ex, hz, q⟩
  · subst ex
    cases r1
    obtain ⟨its, r, ht, hz⟩ := I5.list hx
    have hlen := r.length
    show wpAny (model X.prog X.w) X.A (subscriptTail e (.Slice none none (some (.UnaryOp .USub (.Constant (.int 1) k p1) p2)) p3) (.ref a) (.ref s4.heap.objs.size)) (EP X pins σ Q) X.xe { s4 with heap := s4.heap.push { cls := .type "slice", data := .fields #[vl, vu, vs] } }
    refine tail_any (ops := [.ref a, .ref s4.heap.objs.size]) ht.isList.typeIs (PySem.slot_list_getitem.lookup) ?_ (by with_unfolding_all rfl)
    refine wpAny_getItem_list_slice ht.isList (Heap.IsSliceOf.new _ vl vu vs) pl pu ps (by decide) ?_ (by rw [List.size_toArray]; omega)
    rw [PySem.W.krv_pick]
    refine ⟨.ref _, _, I5.laid (t' := s4.toks) (o := .lst xs.reverse) (fun b ob q => Heap.get?_push_of_some _ q) (Nat.le_refl _) ?_, rfl, q _ (I5.hok.fresh (Nat.le_refl _))⟩
    exact ⟨by rw [List.length_reverse]; exact hz, _, 0, r.reverse, Heap.get?_push_size _ rfl⟩
  · subst ex
    obtain ⟨t, rfl⟩ := r1
    obtain ⟨l, rfl, hl1⟩ := IsPart.raw pl
    obtain ⟨u, rfl, hu1⟩ := IsPart.raw pu
    obtain ⟨w, rfl, hw1⟩ := IsPart.raw ps
    have el : l = none := by cases l with | none => rfl | some _ => cases hl1
    have eu : u = none := by cases u with | none => rfl | some _ => cases hu1
    subst el eu
    obtain ⟨tw, rfl⟩ : ∃ tw, w = some (-1, tw) := by
      cases w with
      | none => cases hw1
      | some p => obtain ⟨a, b⟩ := p; cases hw1; exact ⟨b, rfl⟩
    show wpAny (model X.prog X.w) X.A (subscriptTail e (.Slice none none (some (.UnaryOp .USub (.Constant (.int 1) k p1) p2)) p3) (.str ⟨z.toArray⟩ t) (.ref s4.heap.objs.size)) (EP X pins σ Q) X.xe _
    refine tail_any (ops := [.ref s4.heap.objs.size, .str ⟨z.toArray⟩ t]) (typeIs_str _ _ _) F.slot_str_getitem.lookup ?_ (by with_unfolding_all rfl)
    refine wpAny_getItem_str_slice (l := none) (u := none) (st := some (-1, tw)) ⟨_, Heap.get?_push_size _ rfl, rfl, rfl⟩ rfl ?_
    have key : ((Builtin.Str.strSliceIndices none none (-1) (⟨z.toArray⟩ : Str).length).filterMap ((⟨z.toArray⟩ : Str).cps[·]?)).toArray = z.reverse.toArray := by
      rw [rev_idx, List.filterMap_reverse]
      show ((List.range z.toArray.size).filterMap (z.toArray[·]?)).reverse.toArray = _
      rw [range_pick]
    show Made.post (if ((-1 : Int) == 1 && _) = true then Made.val (.str ⟨z.toArray⟩ t) else Made.str ⟨((Builtin.Str.strSliceIndices none none (-1) (⟨z.toArray⟩ : Str).length).filterMap ((⟨z.toArray⟩ : Str).cps[·]?)).toArray⟩) (EP X pins σ Q) _
    rw [if_neg (by simp), key]
    exact ⟨by show (z.reverse.toArray).size ≤ _; simpa using hz, .str _, H4, I5.tok _, ⟨_, rfl⟩, q⟩
def kRev : K1 := fun δ x st => (if x.asS.isSome then opt x.asS fun s => if s.length ≤ LIM then rsv s.reverse else fail else opt (x.asR δ st) fun ds => ret (.ow (.lst ds.reverse))) st
section
variable {C : Ctx} {e : Expr} {ga : DEnv → M Rv} {k : Nat} {p p1 p2 p3 pos : Pos}
theorem de_rev (ha : DE C e ga) : DE C (.Subscript e (.Slice none none (some (.UnaryOp .USub (.Constant (.int 1) k p1) p2)) p3) pos) (gUn kRev ga) := fun X W ok tk => by
  refine peW (pe_revA (ha X W ok tk)) fun σ H Q h => rdE_bnd h fun H0 F ρ δ st Hs H v r S R P => ?_
  unfold kRev at P
  split at P
  · obtain ⟨s, e1, P⟩ := opt_ok P
    split at P
    · rename_i hl
      exact .inr ⟨s, asS_v R e1, by rw [lim_eq]; exact hl, pS S P⟩
    · exact P.elim
  · obtain ⟨ds, e1, P⟩ := opt_ok P
    obtain ⟨a, vs, rfl, h1, h2⟩ := asR_v S R e1
    exact .inl ⟨a, vs, rfl, h1, fun q nq => new_own P S h2.reverse q nq⟩
/-! list(range(..)) -/
def gLstR1 (ga : DEnv → M Rv) : DEnv → M Rv := fun δ => bnd (ga δ) fun r => opt r.asI fun j => if okR j ∧ j ≤ 16777216 then ret (.ow (.lst (rangeD 0 j.toNat))) else fail
def gLstR2 (ga gb : DEnv → M Rv) : DEnv → M Rv := fun δ => bnd (ga δ) fun r => bnd (gb δ) fun r' => opt r.asI fun i => opt r'.asI fun j => if okR i ∧ okR j ∧ j - i ≤ 16777216 then ret (.ow (.lst (rangeD i (j - i).toNat))) else fail
theorem reps_range {g : GG} {F : Hp} {ρ : List Addr} {a b : Int} : Reps g F ρ (rangeD a (b - a).toNat) (rgV a b) := by
  unfold rangeD rgV
  induction List.range (b - a).toNat with
  | nil => exact .nil
  | cons x l ih => exact .cons .int ih
theorem okR_b {j : Int} (h : okR j = true) : -(2 ^ 62) ≤ j ∧ j < 2 ^ 62 := by
  unfold okR at h
  exact of_decide_eq_true h
theorem de_lstR1 {p2 pos2 : Pos} (hgl : Glo C "list") (hml : C.mg "list" = none) (hg : Glo C "range") (hm : C.mg "range" = none) (ha : DE C e ga) (hn : noStar e = true := by rfl) (hh : C.hot = false := by rfl) : DE C (.Call (.Name "list" p) [.Call (.Name "range" p2) [e] [] pos2] [] pos) (gLstR1 ga) := fun X W ok tk => by
  refine peW (pe_listRg (ok.calm hh) (ok.glo hgl) (by rw [ok.mg]; exact hml) (prg_1 (ok.glo hg) (by rw [ok.mg]; exact hm) (ha X W ok tk) (star_eq hn))) fun σ H Q h => rdE_bnd h fun H0 F ρ δ st Hs H v r S R P => ?_
  obtain ⟨j, e1, P⟩ := opt_ok P
  split at P
  · rename_i hj
    have := okR_b hj.1
    refine ⟨j, asI_v R e1, ⟨by decide, by decide, this.1, this.2, by omega⟩, fun q nq => ?_⟩
    rw [show j.toNat = (j - 0).toNat by simp] at P
    exact new_own P S reps_range q nq
  · exact P.elim
end
/-! reversed -/
section
variable {g : GG} {F : Hp} {ρ : List Addr} {a : Addr} {vs : List V} {ds : List D}
theorem rev_at {α : Type} {l : List α} {i : Nat} (h : i < l.length) : l.reverse[i]? = l[l.length - 1 - i]? := by
  rw [List.getElem?_reverse h]
theorem itd_revL (h : SqL g.K F a vs) (r : Reps g F ρ ds vs) : ItD g (Itv g.K a vs.length) ds.reverse F ρ := by
  have hl := r.length
  refine ⟨fun {F' ρ' H' i} e p s hi => by (show vs.length ≤ i); rw [← hl]; simpa using hi, fun {F' ρ' H' i} e p s hi => ?_, fun {F' ρ' H' H'' x d i} e p s hd hy => ?_⟩
  · rw [List.length_reverse] at hi
    obtain ⟨v, h1, _⟩ := r.get (List.getElem?_eq_getElem (show vs.length - 1 - i < ds.length by omega))
    exact ⟨by omega, vs, v, Same.seq s (Same.seq e h), h1⟩
  · obtain ⟨rfl, hx⟩ := hy
    have hi : i < ds.length := by have := (List.getElem?_eq_some_iff.mp hd).1; simpa using this
    rw [rev_at hi, hl] at hd
    obtain ⟨v, h1, h2⟩ := r.get hd
    have := hx vs (Same.seq s (Same.seq e h))
    rw [h1] at this; cases this
    exact ⟨F', Ext.refl s, h2.mono e p⟩
theorem itd_revT (h : SqT g.K F a vs) (r : Reps g F ρ ds vs) : ItD g (RT.ItvT g.K a vs.length) ds.reverse F ρ := by
  have hl := r.length
  refine ⟨fun {F' ρ' H' i} e p s hi => by (show vs.length ≤ i); rw [← hl]; simpa using hi, fun {F' ρ' H' i} e p s hi => ?_, fun {F' ρ' H' H'' x d i} e p s hd hy => ?_⟩
  · rw [List.length_reverse] at hi
    obtain ⟨v, h1, _⟩ := r.get (List.getElem?_eq_getElem (show vs.length - 1 - i < ds.length by omega))
    exact ⟨by omega, vs, v, Same.sqT s (Same.sqT e h), h1⟩
  · obtain ⟨rfl, hx⟩ := hy
    have hi : i < ds.length := by have := (List.getElem?_eq_some_iff.mp hd).1; simpa using this
    rw [rev_at hi, hl] at hd
    obtain ⟨v, h1, h2⟩ := r.get hd
    have := hx vs (Same.sqT s (Same.sqT e h))
    rw [h1] at this; cases this
    exact ⟨F', Ext.refl s, h2.mono e p⟩
end
/-- the items of a frozen list or tuple -/
def Rv.seqI : Rv → Option (List D)
  | .fz (.lst ds) => some ds
  | .fz (.rol ds) => some ds
  | .fz (.tup ds) => some ds
  | _ => none
def gRevI (ga : DEnv → M Rv) : DEnv → M (List D) := fun δ => bnd (gFrz ga δ) fun r => opt r.seqI fun ds => ret ds.reverse
section
variable {C : Ctx} {e tg : Expr} {ga : DEnv → M Rv} {p pos : Pos}
theorem di_rev (hg : Glo C "reversed") (hm : C.mg "reversed" = none) (h : DE C e ga) (hn : noStar e = true := by rfl) : DI C tg (.Call (.Name "reversed" p) [e] [] pos) (gRevI ga) := fun X W ok tk => by
  refine piW (RT.pi_revA (ok.glo hg) (by rw [ok.mg]; exact hm) (de_frz h X W ok tk) (star_eq hn)) fun σ H R ⟨H0, F, ρ, δ, st, S, P⟩ => ?_
  refine ⟨H0, F, ρ, δ, st, S, PostI_bnd P fun F' ρ' st' H' v r A' S' R' P' => ?_⟩
  match r, R', P' with
  | .fz (.lst ds), R', P' =>
    obtain ⟨a, vs, rfl, h1, h2⟩ := Rep.lst_v R'
    exact ⟨a, vs, rfl, .inl ⟨.of (S'.fs _ _ h1), P' _ ρ' F' H' A' S' (itd_revL (.of h1) h2)⟩⟩
  | .fz (.rol ds), R', P' =>
    cases R' with
    | rol h1 h2 => exact ⟨_, _, rfl, .inl ⟨Same.seq S'.fs h1, P' _ ρ' F' H' A' S' (itd_revL h1 h2)⟩⟩
  | .fz (.tup ds), R', P' =>
    obtain ⟨a, vs, rfl, h1, h2⟩ := Rep.tup_v R'
    exact ⟨a, vs, rfl, .inr ⟨Same.sqT S'.fs h1, P' _ ρ' F' H' A' S' (itd_revT h1 h2)⟩⟩
  | .ow _, _, P' => exact P'.elim
  | .vw _, _, P' => exact P'.elim
  | .fz .non, _, P' => exact P'.elim
  | .fz (.bl _), _, P' => exact P'.elim
  | .fz (.int _), _, P' => exact P'.elim
  | .fz (.str _), _, P' => exact P'.elim
  | .fz (.obj _ _), _, P' => exact P'.elim
  | .fz (.dk _), _, P' => exact P'.elim
  | .fz (.dt _), _, P' => exact P'.elim
  | .fz (.loc _), _, P' => exact P'.elim
  | .fz (.ty _), _, P' => exact P'.elim
  | .fz (.exc _ _), _, P' => exact P'.elim
  | .fz (.tab _ _), _, P' => exact P'.elim
end
end DL

/-! DL18: x, y, .. = a, b, ..: what is owned stays owned. -/
namespace DL
open PySem PySem.Spec PyProof.Rows L2 TL
set_option autoImplicit false
theorem St0.later {g : GG} {H0 F H F' H' : Hp} {ρ ρ' : List Addr} {δ : DEnv} {σ : L2.St} {st st' : Sto} (S : St0 g H0 F ρ δ st σ H) (A : After ρ F H ρ' F' H') (fs : Same F' H') (sto : StoOk g F' ρ' st' H') : St0 g H0 F' ρ' δ st' σ H' := by
  refine ⟨fs, S.len, fun i sv h => ?_, S.dist, sto⟩
  obtain ⟨v, h1, h2⟩ := S.slot i sv h
  refine ⟨v, h1, ?_⟩
  cases sv with
  | fz d => exact Rep.mono A.ff A.ex h2
  | ow c =>
    obtain ⟨a, e1, e2, e3, e4, e5⟩ := h2
    obtain ⟨o, ho⟩ := e5.there
    exact ⟨a, e1, A.unf ho e3 e2, A.nmem e3 ho, e4, e5.mono e3 A⟩
/-- all values first (in the slots δ0), then the stores -/
def sManyK (δ0 : DEnv) : List (Nat × (DEnv → M Rv)) → DEnv → Sto → Option (Fl × Sto)
  | [], δ' => fun st => some (.nx δ', st)
  | (i, g) :: r, δ' => sBnd (g δ0) δ0 fun x st => match setR i x δ' with
    | some δ'' => sManyK δ0 r δ'' st
    | none => none
def sMany (ps : List (Nat × (DEnv → M Rv))) : GS := fun δ => sManyK δ ps δ
inductive DMany (C : Ctx) : List Expr → List (Nat × (DEnv → M Rv)) → Prop
  | nil : DMany C [] []
  | cons {e : Expr} {es : List Expr} {i : Nat} {g : DEnv → M Rv} {ps : List (Nat × (DEnv → M Rv))} (h : DE C e g) (r : DMany C es ps) (hs : noStar e = true := by rfl) : DMany C (e :: es) ((i, g) :: ps)
def setAll : List Nat → List V → L2.St → L2.St
  | i :: is, v :: vs, σ => setAll is vs (σ.set i (some v))
  | _, _, σ => σ
def tMany (X : Cx) (W : WX) (ps : List (Nat × (DEnv → M Rv))) : TA := fun σ H Q => ∃ E D F ρ δ0 δ' σ' st, Lat E ρ F H ∧ St0 (xg X) E.H0 F ρ δ0 st σ H ∧ St0 (xg X) E.H0 F ρ δ' st σ' H ∧ PostS (xg X) W E (sManyK δ0 ps δ' st) D ∧
  ∀ vs H1 F1 ρ1 δ1 st1, vs.length = ps.length → Lat E ρ1 F1 H1 → St0 (xg X) E.H0 F1 ρ1 δ1 st1 (setAll (ps.map Prod.fst) vs σ') H1 → PostS (xg X) W E (some (.nx δ1, st1)) D → Q vs H1
theorem pa_many {C : Ctx} {X : Cx} {W : WX} {es : List Expr} {ps : List (Nat × (DEnv → M Rv))} (h : DMany C es ps) (ok : CtxOk C X) (tk : Takes X W) : PA X es (tMany X W ps) := by
  induction h with
  | nil => exact paW pa_nil fun σ H Q ⟨E, D, F, ρ, δ0, δ', σ', st, A, S, S', P, k⟩ => k [] H F ρ δ' st rfl A S' P
  | @cons e es i g ps h r hs ih =>
    refine paW (pa_cons (h X W ok tk) ih (star_eq hs)) fun σ H Q ⟨E, D, F, ρ, δ0, δ', σ', st, A, S, S', P, k⟩ => ?_
    refine ⟨E.H0, F, ρ, δ0, st, S, PostS_bnd A P fun F1 ρ1 st1 H1 v x A1 A1' S1 R1 P1 => ?_⟩
    cases q : setR i x δ' with
    | none => rw [q] at P1; exact P1.elim
    | some δ'' =>
      rw [q] at P1
      have S2 := S'.later A1 S1.fs S1.sto
      have R2 : RepR (xg X) F1 ρ1 δ' σ' H H1 x v := by
        cases x with
        | fz d => exact R1
        | ow c => exact R1
        | vw j => unfold setR Rv.sv at q; cases q
      have S3 := set_ok (fun _ _ => A.a) S' A1 S2 R2 q
      refine ⟨E, D, F1, ρ1, δ0, δ'', σ'.set i (some v), st1, A1', S1, S3, P1, fun vs H2 F2 ρ2 δ2 st2 hl A2 S4 P2 => ?_⟩
      exact k (v :: vs) H2 F2 ρ2 δ2 st2 (by simp [hl]) A2 S4 P2
section
variable {C : Ctx} {x y z : Str} {a b c : Expr} {px py pz pt pt2 pos : Pos} {kt k2 i j l : Nat} {ga gb gc : DEnv → M Rv}
theorem many_rd {X : Cx} {W : WX} {D : Ends} {σ : L2.St} {H : Hp} {ps : List (Nat × (DEnv → M Rv))} {Q : List V → Hp → Prop} (h : rdS (xg X) W (sMany ps) D σ H)
    (k : ∀ E vs H1 F1 ρ1 δ1 st1, vs.length = ps.length → Lat E ρ1 F1 H1 → St0 (xg X) E.H0 F1 ρ1 δ1 st1 (setAll (ps.map Prod.fst) vs σ) H1 → PostS (xg X) W E (some (.nx δ1, st1)) D → Q vs H1) : tMany X W ps σ H Q := by
  obtain ⟨E, F, ρ, δ, st, A, S, P⟩ := h
  exact ⟨E, D, F, ρ, δ, δ, σ, st, A, S, S, P, k E⟩
theorem len2 {α : Type} {l : List α} (h : l.length = 2) : ∃ u v, l = [u, v] := by
  match l, h with
  | [u, v], _ => exact ⟨u, v, rfl⟩
theorem len3 {α : Type} {l : List α} (h : l.length = 3) : ∃ u v w, l = [u, v, w] := by
  match l, h with
  | [u, v, w], _ => exact ⟨u, v, w, rfl⟩
/-- two local names on one row -/
theorem ds_many2 (hi : C.N[i]? = some x) (hj : C.N[j]? = some y) (hx : C.sc.names.lookup x = some .local) (hy : C.sc.names.lookup y = some .local) (hk : C.sc.kind = .function) (ha : DMany C [a, b] [(i, ga), (j, gb)])
    (hij : Nat.beq i j = false := by rfl) (hl : (py.line == px.line) = true := by rfl) (hne : (y == x) = false := by decide) (na : noStar a = true := by rfl) (nb : noStar b = true := by rfl) (hf : [a, b].all (foldedForSure 8) = false := by rfl) (hc : [a, b].all (constantsAlone 8) = false := by rfl) (hh : C.hot = false := by rfl) :
    DS C (.Assign [.Tuple [.Name x px, .Name y py] kt pt] (.Tuple [a, b] k2 pt2) pos) (sMany [(i, ga), (j, gb)]) := fun X W ok tk => by
  have hsw := swap2 (env := X.env) (px := px) (py := py) (pt := pt) (pt2 := pt2) (kt := kt) (k2 := k2) (by rw [ok.sc]; exact hk) (by rw [ok.sc]; exact hx) (by rw [ok.sc]; exact hy) hl hne na nb hf hc
  refine psW (ps_par (ok.calm hh) (by rw [ok.N]; exact ok.nd) (by rw [ok.N]; exact hi) (by rw [ok.N]; exact hj) (Nat.ne_of_beq_eq_false hij) (by rw [ok.sc]; exact hx) (by rw [ok.sc]; exact hy) (pa_many ha ok tk) hsw) fun D σ H h => ?_
  refine many_rd h fun E vs H1 F1 ρ1 δ1 st1 hl A1 S1 P1 => ?_
  obtain ⟨u, v, rfl⟩ := len2 hl
  exact ⟨u, v, rfl, P1 _ ρ1 F1 H1 A1 S1⟩
theorem swap3 {env : Env} (hk : env.scope.kind = .function) (hx : env.scope.names.lookup x = some .local) (hy : env.scope.names.lookup y = some .local) (hz : env.scope.names.lookup z = some .local) (hl : (py.line == px.line) = true) (hl2 : (pz.line == px.line) = true)
    (hd : ([x, y, z].eraseDups == [x, y, z]) = true) (ha : noStar a = true) (hb' : noStar b = true) (hc' : noStar c = true) (hf : [a, b, c].all (foldedForSure 8) = false) (hc : [a, b, c].all (constantsAlone 8) = false) :
    swappedStores [.Tuple [.Name x px, .Name y py, .Name z pz] kt pt] (.Tuple [a, b, c] k2 pt2) env = pure (some [x, y, z]) := by
  have kx : env.kindOf x = some .local := hx
  have ky : env.kindOf y = some .local := hy
  have kz : env.kindOf z = some .local := hz
  have hb : env.blockKind = .function := by unfold Env.blockKind; rw [hk]; rfl
  have hl3 : py.line = px.line := by simpa using hl
  have hl4 : pz.line = px.line := by simpa using hl2
  have hd2 : [x, y, z].eraseDups = [x, y, z] := by simpa using hd
  unfold swappedStores
  simp only [hb, hf, hc, kx, ky, kz, hl3, hl4, List.filterMap, List.head?, Option.map, Option.getD, Expr.pos]
  simp
  rw [if_neg, hd2]
  · rfl
  · rintro (h | h | h)
    · split at h
      · cases ha
      · cases h
    · split at h
      · cases hb'
      · cases h
    · split at h
      · cases hc'
      · cases h
/-- three local names on one row -/
theorem ds_many3 (hi : C.N[i]? = some x) (hj : C.N[j]? = some y) (hl0 : C.N[l]? = some z) (hx : C.sc.names.lookup x = some .local) (hy : C.sc.names.lookup y = some .local) (hz : C.sc.names.lookup z = some .local) (hk : C.sc.kind = .function) (ha : DMany C [a, b, c] [(i, ga), (j, gb), (l, gc)])
    (hij : Nat.beq i j = false := by rfl) (hil : Nat.beq i l = false := by rfl) (hjl : Nat.beq j l = false := by rfl) (hl : (py.line == px.line) = true := by rfl) (hl2 : (pz.line == px.line) = true := by rfl) (hd : ([x, y, z].eraseDups == [x, y, z]) = true := by decide +kernel)
    (na : noStar a = true := by rfl) (nb : noStar b = true := by rfl) (nc : noStar c = true := by rfl) (hf : [a, b, c].all (foldedForSure 8) = false := by rfl) (hc : [a, b, c].all (constantsAlone 8) = false := by rfl) (hh : C.hot = false := by rfl) :
    DS C (.Assign [.Tuple [.Name x px, .Name y py, .Name z pz] kt pt] (.Tuple [a, b, c] k2 pt2) pos) (sMany [(i, ga), (j, gb), (l, gc)]) := fun X W ok tk => by
  have hsw := swap3 (env := X.env) (px := px) (py := py) (pz := pz) (pt := pt) (pt2 := pt2) (kt := kt) (k2 := k2) (by rw [ok.sc]; exact hk) (by rw [ok.sc]; exact hx) (by rw [ok.sc]; exact hy) (by rw [ok.sc]; exact hz) hl hl2 hd na nb nc hf hc
  refine psW (ps_par3 (ok.calm hh) (by rw [ok.N]; exact ok.nd) (by rw [ok.N]; exact hi) (by rw [ok.N]; exact hj) (by rw [ok.N]; exact hl0) (Nat.ne_of_beq_eq_false hij) (Nat.ne_of_beq_eq_false hil) (Nat.ne_of_beq_eq_false hjl) (by rw [ok.sc]; exact hx) (by rw [ok.sc]; exact hy) (by rw [ok.sc]; exact hz) (pa_many ha ok tk) hsw) fun D σ H h => ?_
  refine many_rd h fun E vs H1 F1 ρ1 δ1 st1 hl A1 S1 P1 => ?_
  obtain ⟨u, v, w, rfl⟩ := len3 hl
  exact ⟨u, v, w, rfl, P1 _ ρ1 F1 H1 A1 S1⟩
end
/-! names that inner blocks read, or values that are all written: the tuple is made and taken apart -/
/-- one of the targets is no local name -/
def notLoc (sc : Scope) : Expr → Bool
  | .Name id _ => !(sc.names.lookup id == some .local)
  | _ => true
theorem swap_none_any {env : Env} {ts vs : List Expr} {kt k2 : Nat} {pt pt2 : Pos} (h : ts.any (notLoc env.scope) = true) : swappedStores [.Tuple ts kt pt] (.Tuple vs k2 pt2) env = pure none := by
  have key : ∀ (f : Expr → Option Str), (∀ e, notLoc env.scope e = true → f e = none) → (ts.filterMap f).length ≠ ts.length := fun f hf => by
    have : ∀ l : List Expr, (l.filterMap f).length ≤ l.length := fun l => List.length_filterMap_le ..
    have k2 : ∀ l : List Expr, l.any (notLoc env.scope) = true → (l.filterMap f).length < l.length := fun l => by
      induction l with
      | nil => exact fun h => by cases h
      | cons e l ih =>
        intro h
        rw [List.any_cons, Bool.or_eq_true] at h
        cases q : f e with
        | none =>
          rw [List.filterMap_cons_none q, List.length_cons]
          exact Nat.lt_succ_of_le (this l)
        | some x =>
          rcases h with h | h
          · rw [hf e h] at q; cases q
          · rw [List.filterMap_cons_some q, List.length_cons, List.length_cons]
            exact Nat.succ_lt_succ (ih h)
    exact Nat.ne_of_lt (k2 ts h)
  unfold swappedStores
  dsimp only
  split
  · rfl
  · split
    · rfl
    · rename_i q1 q2
      rw [if_pos]
      rw [Bool.or_eq_true]
      left
      rw [bne_iff_ne]
      refine key _ fun e he => ?_
      cases e <;> first | rfl | skip
      rename_i id p
      have : ¬ (env.kindOf id == some .local) = true := by
        have h0 : (!(env.scope.names.lookup id == some .local)) = true := he
        unfold Env.kindOf
        simpa using h0
      simp only [Bool.and_eq_true]
      rw [if_neg (fun z => this z.1)]
theorem swap_none_fold {env : Env} {ts vs : List Expr} {kt k2 : Nat} {pt pt2 : Pos} (h : vs.all (foldedForSure 8) = true) : swappedStores [.Tuple ts kt pt] (.Tuple vs k2 pt2) env = pure none := by
  unfold swappedStores
  dsimp only
  split
  · rfl
  · split
    · rfl
    · split
      · rfl
      · first | rfl | (rw [if_pos h]; rfl)
/-- names as targets -/
inductive DNames (C : Ctx) : List Expr → List Nat → Prop
  | nil : DNames C [] []
  | cons {x : Str} {p : Pos} {i : Nat} {ts : List Expr} {is : List Nat} (hi : C.N[i]? = some x) (hx : Stor C x) (r : DNames C ts is) : DNames C (.Name x p :: ts) (i :: is)
def tSets : List Nat → TGs
  | [] => L2.gNil
  | i :: is => L2.gCons (L2.gName i) (tSets is)
theorem pgs_names {C : Ctx} {X : Cx} {ts : List Expr} {is : List Nat} (h : DNames C ts is) (ok : CtxOk C X) : PGs X ts (tSets is) := by
  induction h with
  | nil => exact pgs_nil
  | cons hi hx r ih => exact pgs_cons (pg_name (by rw [ok.N]; exact ok.nd) (by rw [ok.N]; exact hi) (ok.loc hx) (ok.fn hx)) ih
theorem sets_all : ∀ {is : List Nat} {vs : List V} {σ : L2.St} {H : Hp} {Q : L2.St → Hp → Prop}, vs.length = is.length → Q (setAll is vs σ) H → tSets is vs σ H Q
  | [], [], _, _, _, _, q => ⟨rfl, q⟩
  | i :: is, v :: vs, _, _, _, e, q => ⟨v, vs, rfl, sets_all (by simpa using e) q⟩
  | [], _ :: _, _, _, _, e, _ => by cases e
  | _ :: _, [], _, _, _, e, _ => by cases e
section
variable {C : Ctx} {ts es : List Expr} {ps : List (Nat × (DEnv → M Rv))} {kt k2 : Nat} {pt pt2 pos : Pos}
theorem ds_manyT (ht : DNames C ts (ps.map Prod.fst)) (ha : DMany C es ps) (hw : (ts.any (notLoc C.sc) || es.all (foldedForSure 8)) = true := by rfl) (hl : decide (es.length ≤ 30) = true := by rfl) (hle : decide (ts.length = ps.length) = true := by rfl) (hh : C.hot = false := by rfl) :
    DS C (.Assign [.Tuple ts kt pt] (.Tuple es k2 pt2) pos) (sMany ps) := fun X W ok tk => by
  have hsw : swappedStores [.Tuple ts kt pt] (.Tuple es k2 pt2) X.env = pure none := by
    rw [Bool.or_eq_true] at hw
    rcases hw with h | h
    · exact swap_none_any (by rw [ok.sc]; exact h)
    · exact swap_none_fold h
  have hn : (assignEach ts X.env).length = ps.length := by
    rw [← of_decide_eq_true hle]
    have : ∀ l : List Expr, ∀ is, DNames C l is → (assignEach l X.env).length = l.length := fun l => by
      induction l with
      | nil => exact fun _ _ => rfl
      | cons t l ih =>
        intro is h
        cases h with
        | cons hi hx r =>
          have := ih _ r
          show (assignEach (.Name _ _ :: l) X.env).length = _
          rw [show assignEach (.Name _ _ :: l) X.env = (false, assign (.Name _ _) X.env) :: assignEach l X.env from rfl]
          simp [this]
    exact this ts _ ht
  have hst : (assignEach ts X.env).findIdx? (·.1) = none := by
    have : ∀ l : List Expr, ∀ is, DNames C l is → (assignEach l X.env).findIdx? (·.1) = none := fun l => by
      induction l with
      | nil => exact fun _ _ => rfl
      | cons t l ih =>
        intro is h
        cases h with
        | cons hi hx r =>
          have := ih _ r
          rw [show assignEach (.Name _ _ :: l) X.env = (false, assign (.Name _ _) X.env) :: assignEach l X.env from rfl, List.findIdx?_cons]
          simp [this]
    exact this ts _ ht
  refine psW (ps_asg (pe_tup (pa_many ha ok tk)) (pg_tup (n := ps.length) (ok.calm hh) (pgs_names ht ok) hn hst) (swapsSole rfl) hsw (assign_cons rfl)) fun D σ H h => ?_
  refine many_rd h fun E vs H1 F1 ρ1 δ1 st1 hlv A1 S1 P1 => ⟨?_, fun p np => ?_⟩
  · rw [hlv, ← of_decide_eq_true hle]
    have : ts.length = es.length := by
      have h1 : ∀ l ps, DMany C l ps → l.length = ps.length := fun l ps h => by
        induction h with
        | nil => rfl
        | cons _ _ _ ih => simp [ih]
      rw [h1 _ _ ha]; exact of_decide_eq_true hle
    have h2 := of_decide_eq_true hl
    rw [this, sizeLine_eq]
    omega
  · have e2 := ext_new (o := .tup vs) S1.fs np
    refine ⟨p, vs, rfl, .inl (.inl upd_same), hlv, sets_all (by rw [hlv, List.length_map]) ?_⟩
    exact P1 _ ρ1 F1 _ (A1.step e2.after) (S1.ext e2)
end
end DL

/-! DL19: enumerate and zip of lists, tuples, texts. -/
namespace DL
open PySem PySem.Spec PyProof.Rows L2 TL
set_option autoImplicit false
/-! enumerate of a text -/
def IteS (x : Str) : It :=
  ⟨fun i _ => i < x.cps.size, fun i H v H' => ∃ T c, v = .ref T ∧ H T = none ∧ H' = upd H T (.tup [.int (i : Nat), .str ⟨#[c]⟩]) ∧ x.cps[i]? = some c, fun i _ => x.cps.size ≤ i⟩
theorem turn_enumS {P : Program} {w : World} {K : PySem.W.Frag} {elts : List Expr} {kk : Nat} {tpos : Pos} (x : Str) (t : Tok) (e it : Addr) :
    Turn P w K (.Tuple elts kk tpos) (IteS x) [e, it] e (fun i h => (∃ old, IsEnum h e it ((i : Nat) : Int) old) ∧ h.IsStrIter it (strIterType x) x t i ∧ e ≠ it) where
  mem := by simp
  obj := fun i h st b hb => by
    obtain ⟨⟨old, he⟩, ⟨o, ho, hc, hd⟩, _⟩ := st
    have e' : b = e ∨ b = it := by simpa using hb
    rcases e' with z | z
    · rw [z]; exact ⟨_, he, fun v q => nomatch q⟩
    · rw [z]; exact ⟨o, ho, fun v q => by rw [hd] at q; cases q⟩
  keep := fun i h h' st k => by
    obtain ⟨⟨old, he⟩, ⟨o, ho, r⟩, hne⟩ := st
    exact ⟨⟨old, k e (by simp) _ he⟩, ⟨o, k it (by simp) o ho, r⟩, hne⟩
  item := by
    intro X hP hw hK hc i pins s σ H E I hf st hg
    subst hP hw hK
    obtain ⟨⟨old, he⟩, hit, hne⟩ := st
    have hel : e < s.heap.objs.size := Heap.lt_size he
    have hil : it < s.heap.objs.size := by obtain ⟨_, q, _⟩ := hit; exact Heap.lt_size q
    have D := PySem.Draws.text (prog := X.prog) (w := X.w) (A := X.A.in1) (I.ok.hd hc) it x t
    refine wpAny_pyNext_enum_itemD D he hit hg hne (by simp [hne]) fun v h' tk hv ho hit' hT hsz hk => ?_
    obtain ⟨c, u, hcx, rfl⟩ := hv
    refine ⟨_, rfl, wpAny_letOwnedTupleGo_enum (s := { s with heap := h', toks := tk + 1 }) ho fun h'' he' sb => ?_⟩
    have hT2 : h''.get? s.heap.objs.size = some { cls := .type "tuple", data := .seq #[.int i tk, .str ⟨#[c]⟩ u] } := (sb.2 _ (Nat.ne_of_gt hel)).trans hT
    have new : ObjOk X.prog X.w (upd H s.heap.objs.size (.tup [.int (i : Nat), .str ⟨#[c]⟩])) h'' s.heap.objs.size (.tup [.int (i : Nat), .str ⟨#[c]⟩]) :=
      ⟨by show 2 ≤ sizeLine; decide, [.int i tk, .str ⟨#[c]⟩ u], .cons ⟨_, rfl⟩ (.cons ⟨_, rfl⟩ .nil), ⟨_, hT2, rfl, _, rfl⟩⟩
    have I1 : Inv X pins σ (upd H s.heap.objs.size (.tup [.int (i : Nat), .str ⟨#[c]⟩])) { s with heap := h'', toks := tk + 1 } :=
      I.turnedNew (ch := [e, it]) (fun b ob hb q => (sb.2 b (fun z => hb (by simp [z]))).trans (hk b ob (fun z => hb (by simp [z])) (fun z => hb (by simp [z])) q)) hf (Nat.le_refl _) new
    refine ⟨.ref s.heap.objs.size, _, I1, rfl, ⟨_, c, rfl, I.hok.fresh (Nat.le_refl _), rfl, hcx⟩, ⟨⟨.str ⟨#[c]⟩ u, ?_⟩, ?_, hne⟩, fun b hb => ?_⟩
    · have e1 : ((i + 1 : Nat) : Int) = (i : Int) + 1 := by omega
      rw [e1]; exact he'
    · obtain ⟨o, ho2, r⟩ := hit'
      exact ⟨o, (sb.2 it (Ne.symm hne)).trans ho2, r⟩
    · have hb' : b < s.heap.objs.size := by
        have e' : b = e ∨ b = it := by simpa using hb
        rcases e' with z | z
        · rw [z]; exact hel
        · rw [z]; exact hil
      rw [upd_ne (Nat.ne_of_lt hb')]
      exact (hf b hb).1
  done := by
    intro X hP hw hK hc i pins s σ H E I hf st hg
    subst hP hw hK
    obtain ⟨⟨old, he⟩, hit, hne⟩ := st
    obtain ⟨f0, f1, f2, f3, f4, f5⟩ := hf it (by simp)
    have hx : x.cps[i]? = none := Array.getElem?_eq_none hg
    have D' : Draws X.prog X.w X.A.in1 it [it] i (fun _ _ => True) (fun k h => k = i ∧ h.IsStrIter it (strIterType x) x t i) := {
      live := fun _ _ st => let ⟨o, ho, _⟩ := st.2; ⟨o, ho⟩
      frame := fun _ _ _ st hk => let ⟨o, ho, r⟩ := st.2; ⟨st.1, o, hk it (by simp) o ho, r⟩
      item := fun k s Q E hk st _ => absurd st.1 (Nat.ne_of_lt hk)
      done := fun s Q E st hE => by
        have st2 := st.2
        cases ha : x.cps.all (· < 128)
        · rw [show strIterType x = "str_iterator" by simp [strIterType, ha]] at st2
          exact wpAny_nextOf_wide_end (I.ok.hd hc) st2 hx hE
        · rw [show strIterType x = "str_ascii_iterator" by simp [strIterType, ha]] at st2
          exact wpAny_nextOf_ascii_end (I.ok.hd hc) st2 hx hE }
    exact wpAny_pyNext_enum_endD D' he ⟨rfl, hit⟩ fun h' eb => ⟨rfl, I.turned (t' := s.toks) (fun b o hb q => eb b o hb q) f0 f1 f3 f4 f5⟩
  self := fun A i s Q E st h => let ⟨⟨_, he⟩, _⟩ := st; wpAny_pyIter_enum he h
def iEnumS (ta : TA) : TI := fun σ H R => ta σ H fun vs H1 => ∃ x, vs = [.str x] ∧ R (IteS x) H1
theorem pi_enumS {X : Cx} {e : Expr} {ta : TA} {p pos tpos : Pos} {elts : List Expr} {kk : Nat} (hg : Gl X "enumerate") (hm : X.mg "enumerate" = none) (ha : PA X [e] ta) (hs : starEach [e] X.env = [(false, eval e X.env)] := by rfl) :
    PI X (.Tuple elts kk tpos) (.Call (.Name "enumerate" p) [e] [] pos) (iEnumS ta) := by
  refine ⟨fun pins s σ H R I h => ?_⟩
  refine Call_ (ld_blt I hg hm boot_enumerate (PyProof.Rows.callWith_type1 (thn (ha.run pos pins s σ H _ I h) fun us s1 ⟨vs, H1, I1, r1, q1⟩ => ?_) hs rfl))
  obtain ⟨x, ex, q⟩ := q1
  subst ex
  cases r1 with
  | cons r rr =>
    cases rr
    obtain ⟨t, rfl⟩ := r
    refine call_enumerate_str fun h' he hit hsz hk => wpAny_pyIter_enum he ?_
    have I2 : Inv X pins σ H1 { s1 with heap := h' } := I1.kept (t' := s1.toks) hk
    refine ⟨s1.heap.objs.size + 1, [s1.heap.objs.size + 1, s1.heap.objs.size], _, _, H1, rfl, I2, turn_enumS x t (s1.heap.objs.size + 1) s1.heap.objs.size, ⟨⟨.none, he⟩, hit, Nat.succ_ne_self _⟩, fun b hb => ?_, q⟩
    have e' : b = s1.heap.objs.size + 1 ∨ b = s1.heap.objs.size := by simpa using hb
    have hle : s1.heap.objs.size ≤ b := by
      rcases e' with z | z
      · rw [z]; exact Nat.le_add_right _ _
      · rw [z]; exact Nat.le_refl _
    exact I1.fpOk hle (I1.hok.fresh hle)
/-! enumerate of a tuple -/
set_option maxHeartbeats 1000000 in
theorem meets_enumerate_new1 {v : Value} {o : Obj} {H : Heap → Prop} (B : PySem.Begins v o H) :
    Meets (Builtin.«enumerate.__new__» ⟨[.type "enumerate", v], []⟩) (fun _ R s => H s.heap ∧
      R (.ok (.ret (.ref (s.heap.push o).objs.size))) { s with heap := (s.heap.push o).push { cls := .type "enumerate", data := .fields #[.none, .bool false, .ref s.heap.objs.size, rawInt 0, .none, .none] } }) :=
  .of_wp fun prog w A R s h => by
    obtain ⟨hp, g, d, tk, os⟩ := s; obtain ⟨h1, h⟩ := h
    have hsub := sub_enumerate
    have q1 : ∀ {A' : Around} {E : Value → Shared → Prop} {Q : Value → Shared → Prop}, Q (.ref hp.objs.size) ⟨hp.push o, g, d, tk, os⟩ → wpAny (model prog w) A' (pyIter v) Q E ⟨hp, g, d, tk, os⟩ :=
      fun q => B.iter prog w _ _ ⟨hp, g, d, tk, os⟩ _ h1 q
    wp_walk using q1
    refine wpAny_stack_any fun st => wpAny_pure ?_
    split
    · rename_i c _ _ _ _ _
      cases (c == Value.type "enumerate")
      · wp_walk using q1
        exact ⟨_, rfl, h⟩
      · wp_walk using q1
        exact ⟨_, rfl, h⟩
    · wp_walk using q1
      exact ⟨_, rfl, h⟩
theorem enum_begins1 {prog : Program} {w : World} {A : Around} {E : Value → Shared → Prop} {s : Shared} {v : Value} {o : Obj} {H : Heap → Prop} {Q : Value → Shared → Prop} (B : PySem.Begins v o H) (h1 : H s.heap)
    (h : ∀ h', IsEnum h' (s.heap.objs.size + 1) s.heap.objs.size 0 .none → h'.get? s.heap.objs.size = some o → h'.objs.size = s.heap.objs.size + 2 →
      (∀ b o, s.heap.get? b = some o → h'.get? b = some o) → Q (.ref (s.heap.objs.size + 1)) { s with heap := h' }) :
    wpAny (model prog w) A (call (.type "enumerate") [v]) Q E s := by
  refine callType_new F.called_enumerate (by decide) (F.typeCall_enumerate_1 _) (F.newCall_enumerate_1 _) (fun obj => F.args_object_init_2 obj _) F.entry_enumerate_new
    (meets_enumerate_new1 B) ⟨h1, ?_⟩
  have hz : (s.heap.push o).objs.size = s.heap.objs.size + 1 := Heap.size_push ..
  show _ ∧ _
  rw [hz]
  have he : IsEnum ((s.heap.push o).push { cls := .type "enumerate", data := .fields #[.none, .bool false, .ref s.heap.objs.size, rawInt 0, .none, .none] }) (s.heap.objs.size + 1) s.heap.objs.size 0 .none := by
    have := Heap.get?_push_size (s.heap.push o) (o := { cls := .type "enumerate", data := .fields #[.none, .bool false, .ref s.heap.objs.size, rawInt 0, .none, .none] }) rfl
    rw [hz] at this; exact this
  refine ⟨⟨_, he, rfl⟩, h _ he (Heap.get?_push_of_some _ (Heap.get?_push_size _ B.free)) (by rw [Heap.size_push, hz]) fun b o x => Heap.get?_push_of_some _ (Heap.get?_push_of_some _ x)⟩
def IteT (K : PySem.W.Frag) (a : Addr) : It :=
  ⟨fun i H => ∃ xs x, SqT K H a xs ∧ xs[i]? = some x, fun i H v H' => ∃ T x, v = .ref T ∧ H T = none ∧ H' = upd H T (.tup [.int (i : Nat), x]) ∧ ∀ xs, SqT K H a xs → xs[i]? = some x, fun i H => ∃ xs, SqT K H a xs ∧ xs.length ≤ i⟩
theorem turn_enumT {P : Program} {w : World} {K : PySem.W.Frag} {elts : List Expr} {kk : Nat} {tpos : Pos} (a e it : Addr) :
    Turn P w K (.Tuple elts kk tpos) (IteT K a) [e, it] e (fun i h => (∃ old, IsEnum h e it ((i : Nat) : Int) old) ∧ h.IsTupleIter it a i ∧ e ≠ it) where
  mem := by simp
  obj := fun i h st b hb => by
    obtain ⟨⟨old, he⟩, ⟨o, ho, hc, hd⟩, _⟩ := st
    have e' : b = e ∨ b = it := by simpa using hb
    rcases e' with z | z
    · rw [z]; exact ⟨_, he, fun v q => nomatch q⟩
    · rw [z]; exact ⟨o, ho, fun v q => by rw [hd] at q; cases q⟩
  keep := fun i h h' st k => let ⟨⟨old, he⟩, hi, hne⟩ := st; ⟨⟨old, k e (by simp) _ he⟩, hi.at fun o q => k it (by simp) o q, hne⟩
  item := by
    intro X hP hw hK hc i pins s σ H E I hf st hg
    subst hP hw hK
    obtain ⟨⟨old, he⟩, hit, hne⟩ := st
    obtain ⟨xs, x, hq, hx⟩ := hg
    obtain ⟨its, rv, p, hz⟩ := I.tuple hq
    obtain ⟨u, hu, ru⟩ := rv.get hx
    have hel : e < s.heap.objs.size := Heap.lt_size he
    have hil : it < s.heap.objs.size := by obtain ⟨_, q, _⟩ := hit; exact Heap.lt_size q
    have hT0 : s.heap.IsTuple a its.toArray := p
    have hai : a ≠ it := fun z => by
      obtain ⟨o, ho, hc1, _⟩ := hT0
      obtain ⟨o2, ho2, hc2, _⟩ := hit
      rw [z, ho2] at ho; cases ho
      rw [hc1] at hc2; exact absurd (Value.type.inj hc2) (by decide)
    have hae : a ≠ e := fun z => by
      obtain ⟨o, ho, hc1, _⟩ := hT0
      have he2 := he
      unfold IsEnum at he2
      rw [z, he2] at ho; cases ho
      exact absurd (Value.type.inj hc1) (by decide)
    have D := PySem.Draws.tuple (prog := X.prog) (w := X.w) (A := X.A.in1) (I.ok.hd hc) it a hai its.toArray
    have hi : i < its.toArray.size := by have := (List.getElem?_eq_some_iff.mp hu).1; simpa using this
    refine wpAny_pyNext_enum_itemD D he ⟨hit, hT0⟩ hi hne (by simp [hne, Ne.symm hae]) fun v h' tk hv ho hit' hT hsz hk => ?_
    obtain rfl : v = u := by rw [List.getElem?_toArray, hu] at hv; exact (Option.some.inj hv).symm
    refine ⟨_, rfl, wpAny_letOwnedTupleGo_enum (s := { s with heap := h', toks := tk + 1 }) ho fun h'' he' sb => ?_⟩
    have hT2 : h''.get? s.heap.objs.size = some { cls := .type "tuple", data := .seq #[.int i tk, v] } := (sb.2 _ (Nat.ne_of_gt hel)).trans hT
    have new : ObjOk X.prog X.w (upd H s.heap.objs.size (.tup [.int (i : Nat), x])) h'' s.heap.objs.size (.tup [.int (i : Nat), x]) :=
      ⟨by show 2 ≤ sizeLine; decide, [.int i tk, v], .cons ⟨_, rfl⟩ (.cons ru .nil), ⟨_, hT2, rfl, _, rfl⟩⟩
    have I1 : Inv X pins σ (upd H s.heap.objs.size (.tup [.int (i : Nat), x])) { s with heap := h'', toks := tk + 1 } :=
      I.turnedNew (ch := [e, it]) (fun b ob hb q => (sb.2 b (fun z => hb (by simp [z]))).trans (hk b ob (fun z => hb (by simp [z])) (fun z => hb (by simp [z])) q)) hf (Nat.le_refl _) new
    refine ⟨.ref s.heap.objs.size, _, I1, rfl, ⟨_, x, rfl, I.hok.fresh (Nat.le_refl _), rfl, fun ys hy => by rw [I.tuple_inj hy hq]; exact hx⟩, ⟨⟨v, ?_⟩, hit'.1.at fun o q => (sb.2 it (Ne.symm hne)).trans q, hne⟩, fun b hb => ?_⟩
    · have e1 : ((i + 1 : Nat) : Int) = (i : Int) + 1 := by omega
      rw [e1]; exact he'
    · have hb' : b < s.heap.objs.size := by
        have e' : b = e ∨ b = it := by simpa using hb
        rcases e' with z | z
        · rw [z]; exact hel
        · rw [z]; exact hil
      rw [upd_ne (Nat.ne_of_lt hb')]
      exact (hf b hb).1
  done := by
    intro X hP hw hK hc i pins s σ H E I hf st hg
    subst hP hw hK
    obtain ⟨⟨old, he⟩, hit, hne⟩ := st
    obtain ⟨xs, hq, hx⟩ := hg
    obtain ⟨its, rv, p, hz⟩ := I.tuple hq
    obtain ⟨f0, f1, f2, f3, f4, f5⟩ := hf it (by simp)
    have hl := rv.length
    have hT0 : s.heap.IsTuple a its.toArray := p
    have hxn : its.toArray[i]? = none := Array.getElem?_eq_none (by simp; omega)
    have D' : Draws X.prog X.w X.A.in1 it [it, a] i (fun _ _ => True) (fun k h => k = i ∧ h.IsTupleIter it a i ∧ h.IsTuple a its.toArray) := {
      live := fun _ _ st => let ⟨o, ho, _⟩ := st.2.1; ⟨o, ho⟩
      frame := fun _ h h' st hk => ⟨st.1, st.2.1.at fun o e => hk it (by simp) o e, st.2.2.at fun o e => hk a (by simp) o e⟩
      item := fun k s Q E hk st _ => absurd st.1 (Nat.ne_of_lt hk)
      done := fun s' Q E st hE => PySem.wpAny_nextOf_tuple_end (I.ok.hd hc) st.2.1 st.2.2 hxn hE }
    exact wpAny_pyNext_enum_endD D' he ⟨rfl, hit, hT0⟩ fun h' eb => ⟨rfl, I.turned (t' := s.toks) (fun b o hb q => eb b o hb q) f0 f1 f3 f4 f5⟩
  self := fun A i s Q E st h => let ⟨⟨_, he⟩, _⟩ := st; wpAny_pyIter_enum he h
def iEnumT (K : PySem.W.Frag) (ta : TA) : TI := fun σ H R => ta σ H fun vs H1 => ∃ a xs, vs = [.ref a] ∧ SqT K H1 a xs ∧ R (IteT K a) H1
theorem pi_enumT {X : Cx} {e : Expr} {ta : TA} {p pos tpos : Pos} {elts : List Expr} {kk : Nat} (hg : Gl X "enumerate") (hm : X.mg "enumerate" = none) (ha : PA X [e] ta) (hs : starEach [e] X.env = [(false, eval e X.env)] := by rfl) :
    PI X (.Tuple elts kk tpos) (.Call (.Name "enumerate" p) [e] [] pos) (iEnumT X.K ta) := by
  refine ⟨fun pins s σ H R I h => ?_⟩
  refine Call_ (ld_blt I hg hm boot_enumerate (PyProof.Rows.callWith_type1 (thn (ha.run pos pins s σ H _ I h) fun us s1 ⟨vs, H1, I1, r1, q1⟩ => ?_) hs rfl))
  obtain ⟨a, xs, ex, hq, q⟩ := q1
  subst ex
  cases r1 with
  | cons r rr =>
    cases rr
    cases r
    obtain ⟨its, rv, p', hz⟩ := I1.tuple hq
    refine enum_begins1 (PySem.begins_tuple a its.toArray) p' fun h' he hio hsz hk => wpAny_pyIter_enum he ?_
    have I2 : Inv X pins σ H1 { s1 with heap := h' } := I1.kept (t' := s1.toks) hk
    refine ⟨s1.heap.objs.size + 1, [s1.heap.objs.size + 1, s1.heap.objs.size], _, _, H1, rfl, I2, turn_enumT a (s1.heap.objs.size + 1) s1.heap.objs.size, ⟨⟨.none, he⟩, ⟨_, hio, rfl, rfl⟩, Nat.succ_ne_self _⟩, fun b hb => ?_, q⟩
    have e' : b = s1.heap.objs.size + 1 ∨ b = s1.heap.objs.size := by simpa using hb
    have hle : s1.heap.objs.size ≤ b := by
      rcases e' with z | z
      · rw [z]; exact Nat.le_add_right _ _
      · rw [z]; exact Nat.le_refl _
    exact I1.fpOk hle (I1.hok.fresh hle)
end DL

/-! DL20: for .. in enumerate(..), in zip(..). -/
namespace DL
open PySem PySem.Spec PyProof.Rows L2 TL
set_option autoImplicit false
def enumD (ds : List D) : List D := ds.zipIdx.map fun p => .tup [.int (p.2 : Nat), p.1]
theorem enumD_len (ds : List D) : (enumD ds).length = ds.length := by simp [enumD]
theorem enumD_at {ds : List D} {i : Nat} {d : D} (h : (enumD ds)[i]? = some d) : ∃ e, ds[i]? = some e ∧ d = .tup [.int (i : Nat), e] := by
  unfold enumD at h
  rw [List.getElem?_map, List.getElem?_zipIdx] at h
  cases q : ds[i]? with
  | none => rw [q] at h; cases h
  | some e => rw [q] at h; cases h; exact ⟨e, rfl, by simp⟩
theorem pair_new {g : GG} {F' H' : Hp} {ρ' : List Addr} {T : Addr} {a b : D} {x y : V} (s : Same F' H') (np : H' T = none) (ra : Rep g F' ρ' a x) (rb : Rep g F' ρ' b y) :
    ∃ F'', Ext F' H' F'' (upd H' T (.tup [x, y])) ∧ Rep g F'' ρ' (.tup [a, b]) (.ref T) := by
  have e := ext_frz (o := .tup [x, y]) s np
  have p : ∃ l, ρ' = ρ' ++ l := ⟨[], by simp⟩
  exact ⟨_, e, .tup (.inl (.inl upd_same)) (.cons (ra.mono e.ff p) (.cons (rb.mono e.ff p) .nil))⟩
section
variable {g : GG} {F : Hp} {ρ : List Addr} {a b : Addr} {vs ws : List V} {ds es : List D}
theorem itd_enumL (h : SqL g.K F a vs) (r : Reps g F ρ ds vs) : ItD g (Ite g.K a) (enumD ds) F ρ := by
  have hl := r.length
  refine ⟨fun {F' ρ' H' i} e p s hi => ⟨vs, Same.seq s (Same.seq e h), by rw [enumD_len] at hi; omega⟩, fun {F' ρ' H' i} e p s hi => ?_, fun {F' ρ' H' H'' x d i} e p s hd hy => ?_⟩
  · rw [enumD_len] at hi
    obtain ⟨v, h1, _⟩ := r.get (List.getElem?_eq_getElem hi)
    exact ⟨vs, v, Same.seq s (Same.seq e h), h1⟩
  · obtain ⟨T, y, rfl, hn, rfl, hx⟩ := hy
    obtain ⟨e0, h0, rfl⟩ := enumD_at hd
    obtain ⟨v, h1, h2⟩ := r.get h0
    have := hx vs (Same.seq s (Same.seq e h))
    rw [h1] at this; cases this
    exact pair_new s hn .int (h2.mono e p)
theorem itd_enumT (h : SqT g.K F a vs) (r : Reps g F ρ ds vs) : ItD g (IteT g.K a) (enumD ds) F ρ := by
  have hl := r.length
  refine ⟨fun {F' ρ' H' i} e p s hi => ⟨vs, Same.sqT s (Same.sqT e h), by rw [enumD_len] at hi; omega⟩, fun {F' ρ' H' i} e p s hi => ?_, fun {F' ρ' H' H'' x d i} e p s hd hy => ?_⟩
  · rw [enumD_len] at hi
    obtain ⟨v, h1, _⟩ := r.get (List.getElem?_eq_getElem hi)
    exact ⟨vs, v, Same.sqT s (Same.sqT e h), h1⟩
  · obtain ⟨T, y, rfl, hn, rfl, hx⟩ := hy
    obtain ⟨e0, h0, rfl⟩ := enumD_at hd
    obtain ⟨v, h1, h2⟩ := r.get h0
    have := hx vs (Same.sqT s (Same.sqT e h))
    rw [h1] at this; cases this
    exact pair_new s hn .int (h2.mono e p)
theorem itd_enumS {s : List Nat} : ItD g (IteS ⟨s.toArray⟩) (enumD (s.map fun c => .str [c])) F ρ := by
  have hz : ∀ i : Nat, (⟨s.toArray⟩ : Str).cps[i]? = s[i]? := fun i => by simp
  have hl : (⟨s.toArray⟩ : Str).cps.size = s.length := by simp
  refine ⟨fun {F' ρ' H' i} e p q hi => ?_, fun {F' ρ' H' i} e p q hi => ?_, fun {F' ρ' H' H'' x d i} e p q hd hy => ?_⟩
  · show (⟨s.toArray⟩ : Str).cps.size ≤ i
    rw [enumD_len, List.length_map] at hi
    rw [hl]; exact hi
  · show i < (⟨s.toArray⟩ : Str).cps.size
    rw [enumD_len, List.length_map] at hi
    rw [hl]; exact hi
  · obtain ⟨T, c, rfl, hn, rfl, h1⟩ := hy
    obtain ⟨e0, h0, rfl⟩ := enumD_at hd
    rw [hz] at h1
    rw [List.getElem?_map, h1] at h0
    cases h0
    exact pair_new q hn .int .str
def zipD (ds es : List D) : List D := (ds.zip es).map fun p => .tup [p.1, p.2]
theorem zipD_len (ds es : List D) : (zipD ds es).length = min ds.length es.length := by simp [zipD]
theorem zipD_at {ds es : List D} {i : Nat} {d : D} (h : (zipD ds es)[i]? = some d) : ∃ a b, ds[i]? = some a ∧ es[i]? = some b ∧ d = .tup [a, b] := by
  unfold zipD at h
  rw [List.getElem?_map, Option.map_eq_some_iff] at h
  obtain ⟨⟨x, y⟩, h1, rfl⟩ := h
  rw [List.getElem?_zip_eq_some] at h1
  exact ⟨x, y, h1.1, h1.2, rfl⟩
theorem itd_zipL (h : SqL g.K F a vs) (r : Reps g F ρ ds vs) (h' : SqL g.K F b ws) (r' : Reps g F ρ es ws) : ItD g (Itz g.K a b) (zipD ds es) F ρ := by
  have hl := r.length
  have hl' := r'.length
  refine ⟨fun {F' ρ' H' i} e p s hi => ⟨vs, ws, Same.seq s (Same.seq e h), Same.seq s (Same.seq e h'), by rw [zipD_len] at hi; omega⟩, fun {F' ρ' H' i} e p s hi => ?_, fun {F' ρ' H' H'' x d i} e p s hd hy => ?_⟩
  · rw [zipD_len] at hi
    obtain ⟨v, h1, _⟩ := r.get (List.getElem?_eq_getElem (show i < ds.length by omega))
    obtain ⟨u, h2, _⟩ := r'.get (List.getElem?_eq_getElem (show i < es.length by omega))
    exact ⟨vs, ws, v, u, Same.seq s (Same.seq e h), Same.seq s (Same.seq e h'), h1, h2⟩
  · obtain ⟨T, y, z, rfl, hn, rfl, hx, hx'⟩ := hy
    obtain ⟨e0, e1, h0, h0', rfl⟩ := zipD_at hd
    obtain ⟨v, h1, h2⟩ := r.get h0
    obtain ⟨u, h3, h4⟩ := r'.get h0'
    have k1 := hx vs (Same.seq s (Same.seq e h))
    have k2 := hx' ws (Same.seq s (Same.seq e h'))
    rw [h1] at k1; cases k1
    rw [h3] at k2; cases k2
    exact pair_new s hn (h2.mono e p) (h4.mono e p)
theorem itd_zipT (h : SqT g.K F a vs) (r : Reps g F ρ ds vs) (h' : SqT g.K F b ws) (r' : Reps g F ρ es ws) : ItD g (RZ.ItzT g.K a b) (zipD ds es) F ρ := by
  have hl := r.length
  have hl' := r'.length
  refine ⟨fun {F' ρ' H' i} e p s hi => ⟨vs, ws, Same.sqT s (Same.sqT e h), Same.sqT s (Same.sqT e h'), by rw [zipD_len] at hi; omega⟩, fun {F' ρ' H' i} e p s hi => ?_, fun {F' ρ' H' H'' x d i} e p s hd hy => ?_⟩
  · rw [zipD_len] at hi
    obtain ⟨v, h1, _⟩ := r.get (List.getElem?_eq_getElem (show i < ds.length by omega))
    obtain ⟨u, h2, _⟩ := r'.get (List.getElem?_eq_getElem (show i < es.length by omega))
    exact ⟨vs, ws, v, u, Same.sqT s (Same.sqT e h), Same.sqT s (Same.sqT e h'), h1, h2⟩
  · obtain ⟨T, y, z, rfl, hn, rfl, hx, hx'⟩ := hy
    obtain ⟨e0, e1, h0, h0', rfl⟩ := zipD_at hd
    obtain ⟨v, h1, h2⟩ := r.get h0
    obtain ⟨u, h3, h4⟩ := r'.get h0'
    have k1 := hx vs (Same.sqT s (Same.sqT e h))
    have k2 := hx' ws (Same.sqT s (Same.sqT e h'))
    rw [h1] at k1; cases k1
    rw [h3] at k2; cases k2
    exact pair_new s hn (h2.mono e p) (h4.mono e p)
end
def gEnumI (gs : DEnv → M (List Rv)) : DEnv → M (List D) := fun δ => bnd (gs δ) fun rs => match rs with
  | [r] => opt r.items fun ds => ret (enumD ds)
  | _ => fail
def gZipI (gs : DEnv → M (List Rv)) : DEnv → M (List D) := fun δ => bnd (gs δ) fun rs => match rs with
  | [.fz (.lst ds), .fz (.lst es)] => ret (zipD ds es)
  | [.fz (.tup ds), .fz (.tup es)] => ret (zipD ds es)
  | _ => fail
section
variable {C : Ctx} {e e2 : Expr} {es : List Expr} {gs : DEnv → M (List Rv)} {p pos tpos : Pos} {elts : List Expr} {kk : Nat}
/-- which way it goes is settled ahead -/
theorem pi_split {X : Cx} {W : WX} {tg e : Expr} {gi : DEnv → M (List D)} {ta : DEnv → M (List Rv)} {t1 t2 t3 : TI} (p1 : PI X tg e t1) (p2 : PI X tg e t2) (p3 : PI X tg e t3)
    (h : ∀ σ H R, rdI (xg X) W gi σ H R → t1 σ H R ∨ t2 σ H R ∨ t3 σ H R) : PI X tg e (rdI (xg X) W gi) :=
  piW (pi_or p1 (pi_or p2 p3)) h
theorem di_enum (hg : Glo C "enumerate") (hm : C.mg "enumerate" = none) (ha : DA C [e] gs) (hn : noStar e = true := by rfl) : DI C (.Tuple elts kk tpos) (.Call (.Name "enumerate" p) [e] [] pos) (gEnumI gs) := fun X W ok tk => by
  have hs : starEach [e] X.env = [(false, eval e X.env)] := star_eq hn
  have hmx : X.mg "enumerate" = none := by rw [ok.mg]; exact hm
  refine piW (pi_or (pi_enum (ok.glo hg) hmx (ha X W ok tk) hs) (pi_or (pi_enumT (ok.glo hg) hmx (ha X W ok tk) hs) (pi_enumS (ok.glo hg) hmx (ha X W ok tk) hs))) fun σ H R ⟨H0, F, ρ, δ, st, S, P⟩ => ?_
  have P0 := P
  unfold gEnumI at P
  cases q : gs δ st with
  | none => unfold bnd at P; rw [q] at P; exact P.elim
  | some o =>
    obtain ⟨o, st'⟩ := o
    cases o with
    | ex x =>
      unfold bnd at P; rw [q] at P
      exact .inl ⟨H0, F, ρ, δ, st, S, by rw [q]; exact P⟩
    | ok rs =>
      have key : ∀ (T : List V → Hp → Prop), (∀ F' ρ' st' H' vs rs', After ρ F H ρ' F' H' → St0 (xg X) H0 F' ρ' δ st' σ H' → RepRs (xg X) F' ρ' δ σ H H' rs' vs → PostI (xg X) W H0 F ρ δ σ H ((match rs' with
          | [r] => opt r.items fun ds => ret (enumD ds)
          | _ => fail) st') R → rs' = rs → T vs H') → PostA (xg X) W H0 F ρ δ σ H (gs δ st) T := fun T hk => by
        rw [q]
        unfold bnd at P; rw [q] at P
        exact fun vs ρ' F' H' A S' R' => hk F' ρ' st' H' vs rs A S' R' P rfl
      match rs, key with
      | [.fz (.lst ds)], key =>
        refine .inl ⟨H0, F, ρ, δ, st, S, key _ fun F' ρ' st' H' vs rs' A' S' R' P' e => ?_⟩
        subst e
        obtain ⟨v, rfl, R1⟩ := R'.one
        obtain ⟨a, vs, rfl, h1, h2⟩ := Rep.lst_v R1
        exact ⟨a, vs, rfl, .of (S'.fs _ _ h1), P' _ ρ' F' H' A' S' (itd_enumL (.of h1) h2)⟩
      | [.fz (.rol ds)], key =>
        refine .inl ⟨H0, F, ρ, δ, st, S, key _ fun F' ρ' st' H' vs rs' A' S' R' P' e => ?_⟩
        subst e
        obtain ⟨v, rfl, R1⟩ := R'.one
        cases R1 with
        | rol h1 h2 => exact ⟨_, _, rfl, Same.seq S'.fs h1, P' _ ρ' F' H' A' S' (itd_enumL h1 h2)⟩
      | [.fz (.tup ds)], key =>
        refine .inr (.inl ⟨H0, F, ρ, δ, st, S, key _ fun F' ρ' st' H' vs rs' A' S' R' P' e => ?_⟩)
        subst e
        obtain ⟨v, rfl, R1⟩ := R'.one
        obtain ⟨a, vs, rfl, h1, h2⟩ := Rep.tup_v R1
        exact ⟨a, vs, rfl, Same.sqT S'.fs h1, P' _ ρ' F' H' A' S' (itd_enumT h1 h2)⟩
      | [.fz (.str s)], key =>
        refine .inr (.inr ⟨H0, F, ρ, δ, st, S, key _ fun F' ρ' st' H' vs rs' A' S' R' P' e => ?_⟩)
        subst e
        obtain ⟨v, rfl, R1⟩ := R'.one
        exact ⟨_, by rw [Rep.str_v R1], P' _ ρ' F' H' A' S' itd_enumS⟩
      | [], _ => unfold bnd at P; rw [q] at P; exact P.elim
      | _ :: _ :: _, _ => unfold bnd at P; rw [q] at P; exact P.elim
      | [.ow _], _ => unfold bnd at P; rw [q] at P; exact P.elim
      | [.vw _], _ => unfold bnd at P; rw [q] at P; exact P.elim
      | [.fz .non], _ => unfold bnd at P; rw [q] at P; exact P.elim
      | [.fz (.bl _)], _ => unfold bnd at P; rw [q] at P; exact P.elim
      | [.fz (.int _)], _ => unfold bnd at P; rw [q] at P; exact P.elim
      | [.fz (.obj _ _)], _ => unfold bnd at P; rw [q] at P; exact P.elim
      | [.fz (.dk _)], _ => unfold bnd at P; rw [q] at P; exact P.elim
      | [.fz (.dt _)], _ => unfold bnd at P; rw [q] at P; exact P.elim
      | [.fz (.loc _)], _ => unfold bnd at P; rw [q] at P; exact P.elim
      | [.fz (.ty _)], _ => unfold bnd at P; rw [q] at P; exact P.elim
      | [.fz (.exc _ _)], _ => unfold bnd at P; rw [q] at P; exact P.elim
      | [.fz (.tab _ _)], _ => unfold bnd at P; rw [q] at P; exact P.elim
theorem di_zip (hg : Glo C "zip") (hm : C.mg "zip" = none) (ha : DA C [e, e2] gs) (hn : noStar e = true := by rfl) (hn2 : noStar e2 = true := by rfl) : DI C (.Tuple elts kk tpos) (.Call (.Name "zip" p) [e, e2] [] pos) (gZipI gs) := fun X W ok tk => by
  have hmx : X.mg "zip" = none := by rw [ok.mg]; exact hm
  refine piW (RZ.pi_zipA (ok.glo hg) hmx (ha X W ok tk) (by rw [star_eq hn, star_eq hn2] <;> rfl) (by rw [star_eq hn2] <;> rfl)) fun σ H R ⟨H0, F, ρ, δ, st, S, P⟩ => ?_
  refine ⟨H0, F, ρ, δ, st, S, PostI_bndA P fun F' ρ' st' H' vs rs A' S' R' P' => ?_⟩
  split at P'
  · obtain ⟨v, u, rfl, R1, R2⟩ := R'.two
    obtain ⟨a, vs, rfl, h1, h2⟩ := Rep.lst_v R1
    obtain ⟨b, ws, rfl, h3, h4⟩ := Rep.lst_v R2
    exact ⟨a, b, vs, ws, rfl, .inl ⟨.of (S'.fs _ _ h1), .of (S'.fs _ _ h3), P' _ ρ' F' H' A' S' (itd_zipL (.of h1) h2 (.of h3) h4)⟩⟩
  · obtain ⟨v, u, rfl, R1, R2⟩ := R'.two
    obtain ⟨a, vs, rfl, h1, h2⟩ := Rep.tup_v R1
    obtain ⟨b, ws, rfl, h3, h4⟩ := Rep.tup_v R2
    exact ⟨a, b, vs, ws, rfl, .inr ⟨Same.sqT S'.fs h1, Same.sqT S'.fs h3, P' _ ρ' F' H' A' S' (itd_zipT h1 h2 h3 h4)⟩⟩
  · exact P'.elim
end
end DL

/-! DL21: objects: attributes, methods, new ones. -/
namespace DL
open PySem PySem.Spec PyProof.Rows L2 TL
set_option autoImplicit false
/-! ### the levels below -/
section
variable {X : Cx} {CX : CXT} {k : Nat} {f C : Addr} {fd : FuncData} {ps : List Str} {sp : Sp} {E : L2.St → XK} {x m : Str} {p pos apos : Pos} {o e : Expr} {es : List Expr} {ta : TE} {t : TA}
def tMethS (C : Addr) (m : Str) (sp : Sp) (E : L2.St → XK) (ta : TE) (t : TA) : TE := fun σ H Q => ta σ H fun x H1 => ∃ a dx fs, x = .ref a ∧ H1 a = some (.ins C dx fs) ∧ fs.lookup m = none ∧
  t σ H1 fun vs H2 => sp (x :: vs) H2 Q (E σ)
theorem pe_methS {pl : Sem Bool} (he : PE X o ta) (c : Cls X.K C) (hm : Meth X.K C m f) (F : FnOk X.prog X.w X.K X.mg X.base CX k f fd ps sp) (hr : Room k X.A) (hb : Binds X.K fd ps []) (hx : ∀ σ, PassesAt CX X σ (E σ)) (ha : PA X (e :: es) t)
    (hst : starEach (e :: es) X.env = (false, eval e X.env) :: starEach es X.env) (hpl : (backTo pos (starEach es X.env)).any (·.1) = false)
    (ht : eval (.Call (.Attribute o m apos) (e :: es) [] pos) X.env = (do
      let ov ← eval o X.env
      standAt apos.atName
      let (f, first) ← holding [ov] (getMethod ov m pl)
      callWith pos f first (backTo pos (starEach (e :: es) X.env)) (backToKw pos (keywordEach [] X.env)))) :
    PE X (.Call (.Attribute o m apos) (e :: es) [] pos) (tMethS C m sp E ta t) := by
  refine ⟨fun pins s σ H Q I h => ?_⟩
  refine PySem.W.methodCall_KW (pl := pl) (thn (he.run pins s σ H _ I h) fun u s1 ⟨x, H1, I1, rx, a, dx, fs, ex, ea, l, q⟩ => ?_) ht
  subst ex
  obtain rfl : u = Value.ref a := rx
  refine getmeth_ok I1 ea c hm l ?_
  refine PySem.W.callWith_K (first := [.ref a]) (h₀ := X.base) I.ok.mod.kin hm.kp (thn (ha.run pos pins s1 σ H1 _ I1 q) fun us s2 ⟨vs, H2, I2, r, q2⟩ => ⟨I2.kIn, ?_⟩) hst hpl
  exact run_fnSD (dvs := []) (ds := []) (us := .ref a :: us) (vs := .ref a :: vs) F hr hb .nil (hx σ) I2 (.cons rfl r) (by rw [List.append_nil]; exact q2)
theorem pe_methS0 {pl : Sem Bool} (he : PE X o ta) (c : Cls X.K C) (hm : Meth X.K C m f) (F : FnOk X.prog X.w X.K X.mg X.base CX k f fd ps sp) (hr : Room k X.A) (hb : Binds X.K fd ps []) (hx : ∀ σ, PassesAt CX X σ (E σ))
    (ht : eval (.Call (.Attribute o m apos) [] [] pos) X.env = (do
      let ov ← eval o X.env
      standAt apos.atName
      let (f, first) ← holding [ov] (getMethod ov m pl)
      callWith pos f first (backTo pos (starEach [] X.env)) (backToKw pos (keywordEach [] X.env)))) :
    PE X (.Call (.Attribute o m apos) [] [] pos) (tMethS C m sp E ta tNil) := by
  refine ⟨fun pins s σ H Q I h => ?_⟩
  refine PySem.W.methodCall_KW (pl := pl) (thn (he.run pins s σ H _ I h) fun u s1 ⟨x, H1, I1, rx, a, dx, fs, ex, ea, l, q⟩ => ?_) ht
  subst ex
  obtain rfl : u = Value.ref a := rx
  refine getmeth_ok I1 ea c hm l ?_
  exact PySem.W.callWith_K0 (first := [.ref a]) I1.kIn hm.kp (run_fnSD (dvs := []) (ds := []) (us := [.ref a]) (vs := [.ref a]) F hr hb .nil (hx σ) I1 (.cons rfl .nil) (by rw [List.append_nil]; exact q))
def tMakeS (C : Addr) (sp : Sp) (E : L2.St → XK) (t : TA) : TE := fun σ H Q => t σ H fun vs H1 => ∀ x dx, H1 x = none → H1 dx = none → dx ≠ x →
  sp (.ref x :: vs) (upd (upd H1 dx (.own x)) x (.ins C dx [])) (fun v H2 => v = .non ∧ Q (.ref x) H2) (fun cls d H' => ∀ H'', H'' = H' → E σ cls d H'')
theorem run_makeS {pins : List (Addr × Obj)} {σ : L2.St} {H : Hp} {s : Shared} {Q : VK} {us : List Value} {vs : List V} {E : XK} (M : Mk X.K C f) (F : FnOk X.prog X.w X.K X.mg X.base CX k f fd ps sp) (hr : Room (k + 1) X.A) (hb : Binds X.K fd ps [])
    (hx : PassesAt CX X σ E) (I : Inv X pins σ H s) (r : Vals vs us)
    (h : ∀ x dx, H x = none → H dx = none → dx ≠ x → sp (.ref x :: vs) (upd (upd H dx (.own x)) x (.ins C dx [])) (fun v H2 => v = .non ∧ Q (.ref x) H2) E) :
    wpAny (model X.prog X.w) X.A (call (.ref C) us) (EP X pins σ Q) X.xe s := by
  have hq := h (s.heap.objs.size + 1) s.heap.objs.size (I.hok.fresh (Nat.le_succ _)) (I.hok.fresh (Nat.le_refl _)) (Nat.ne_of_lt (Nat.lt_succ_self _))
  have I2 := Inv.made (C := C) I
  have r2 : Vals (V.ref (s.heap.objs.size + 1) :: vs) (Value.ref (s.heap.objs.size + 1) :: us) := .cons rfl r
  have hl : (Value.ref (s.heap.objs.size + 1) :: us ++ []).length = ps.length := by
    have e := r2.length
    rw [F.len _ _ _ _ hq] at e
    rw [List.append_nil]
    exact e.symm
  have hb2 := hb _ (Value.ref (s.heap.objs.size + 1) :: us) I2.kIn hl
  rw [List.append_nil] at hb2
  refine wpAny_call (make_map (f := f) I.kIn M.makes M.init (beq_iff_eq.mp M.fn) (codeAny_mono (F.run _ X.stack _ _ ⟨Value.ref (s.heap.objs.size + 1) :: us, []⟩ (Value.ref (s.heap.objs.size + 1) :: us) _ _ E (hr.make C us [])
    (I2.env0.make C us []) hb2 r2 hq) fun r s' hq' => ?_))
  cases r with
  | error e => exact hx pins _ _ e s' I2 hq'
  | ok fl =>
    cases fl with
    | ret u =>
      obtain ⟨v, H', I3, rv, ev, q3⟩ := I2.after hq'
      subst ev
      exact ⟨rv, ⟨V.ref (s.heap.objs.size + 1), H', I3, rfl, q3⟩⟩
    | next => exact False.elim hq'
    | brk => exact False.elim hq'
    | cont => exact False.elim hq'
def tMakeE (C : Addr) (sp : Sp) (E : L2.St → XK) (t : TA) : TE := fun σ H Q => t σ H fun vs H1 => ∀ x dx, H1 x = none → H1 dx = none → dx ≠ x →
  sp (.ref x :: vs) (upd (upd H1 dx (.own x)) x (.ins C dx [])) (fun v H2 => v = .non ∧ Q (.ref x) H2) (E σ)
theorem pe_makeS (M : Mk X.K C f) (F : FnOk X.prog X.w X.K X.mg X.base CX k f fd ps sp) (hr : Room (k + 1) X.A) (hg : Gl X x) (hm : X.mg x = some (.ref C)) (hb : Binds X.K fd ps []) (hx : ∀ σ, PassesAt CX X σ (E σ))
    (ha : PA X (e :: es) t) (hdb : (x == ("__debug__" : Str)) = false) (he : starEach (e :: es) X.env = (false, eval e X.env) :: starEach es X.env) (hpl : (backTo pos (starEach es X.env)).any (·.1) = false) :
    PE X (.Call (.Name x p) (e :: es) [] pos) (tMakeE C sp E t) := by
  refine ⟨fun pins s σ H Q I h => ?_⟩
  refine wpAny_Call_Name_kw (ld_glob I hg hm ?_ hdb)
  refine PySem.W.callWith_K (h₀ := X.base) I.ok.mod.kin M.kp (thn (ha.run pos pins s σ H _ I h) fun us s1 ⟨vs, H1, I1, r, q⟩ => ⟨I1.kIn, ?_⟩) he hpl
  exact run_makeS M F hr hb (hx σ) I1 r q
theorem pe_makeS0 (M : Mk X.K C f) (F : FnOk X.prog X.w X.K X.mg X.base CX k f fd ps sp) (hr : Room (k + 1) X.A) (hg : Gl X x) (hm : X.mg x = some (.ref C)) (hb : Binds X.K fd ps []) (hx : ∀ σ, PassesAt CX X σ (E σ)) (hdb : (x == ("__debug__" : Str)) = false) :
    PE X (.Call (.Name x p) [] [] pos) (tMakeE C sp E tNil) := by
  refine ⟨fun pins s σ H Q I h => ?_⟩
  refine wpAny_Call_Name_kw (ld_glob I hg hm ?_ hdb)
  exact PySem.W.callWith_K0 I.kIn M.kp (run_makeS (us := []) M F hr hb (hx σ) I .nil h)
end
/-! ### the attributes -/
def Rv.obj (δ : DEnv) (st : Sto) : Rv → Option (Str × List (Str × D))
  | .fz (.obj c fs) => some (c, fs)
  | r => match r.con δ st with
    | some (.obj c fs) => some (c, fs)
    | _ => none
theorem obj_v {g : GG} {H0 F H H1 : Hp} {ρ : List Addr} {δ : DEnv} {σ : L2.St} {st : Sto} {r : Rv} {v : V} {c : Str} {fs : List (Str × D)} (S : St0 g H0 F ρ δ st σ H) (R : RepR g F ρ δ σ H1 H r v) (e : r.obj δ st = some (c, fs)) :
    ∃ a C dx fvs, v = .ref a ∧ g.mg c = some (.ref C) ∧ H a = some (.ins C dx fvs) ∧ fs.map Prod.fst = fvs.map Prod.fst ∧ Reps g F ρ (fs.map Prod.snd) (fvs.map Prod.snd) := by
  unfold Rv.obj at e
  split at e
  · cases e
    cases R with
    | obj h1 h2 h3 h4 => exact ⟨_, _, _, _, rfl, h1, S.fs _ _ h2, h3, h4⟩
  · split at e
    · rename_i q
      cases e
      obtain ⟨a, h1, C, dx, fvs, h2, h3, h4, h5⟩ := con_v S R q
      exact ⟨a, C, dx, fvs, h1, h2, h3, h4, h5⟩
    · cases e
theorem lookup_rep {g : GG} {F : Hp} {ρ : List Addr} {f : Str} {d : D} : ∀ {fs : List (Str × D)} {fvs : List (Str × V)}, fs.map Prod.fst = fvs.map Prod.fst → Reps g F ρ (fs.map Prod.snd) (fvs.map Prod.snd) → fs.lookup f = some d → ∃ v, fvs.lookup f = some v ∧ Rep g F ρ d v
  | [], _, _, _, h => by cases h
  | (k, x) :: fs, [], h, _, _ => by cases h
  | (k, x) :: fs, (k', y) :: fvs, h, r, e => by
    simp only [List.map_cons, List.cons.injEq] at h
    obtain ⟨rfl, h2⟩ := h
    cases r with
    | cons r1 r2 =>
      rw [List.lookup_cons] at e ⊢
      split at e
      · cases e; exact ⟨y, rfl, r1⟩
      · exact lookup_rep h2 r2 e
theorem lookup_non {f : Str} : ∀ {fs : List (Str × D)} {fvs : List (Str × V)}, fs.map Prod.fst = fvs.map Prod.fst → fs.lookup f = none → fvs.lookup f = none
  | [], [], _, _ => rfl
  | [], _ :: _, h, _ => by cases h
  | (k, x) :: fs, [], h, _ => by cases h
  | (k, x) :: fs, (k', y) :: fvs, h, e => by
    simp only [List.map_cons, List.cons.injEq] at h
    obtain ⟨rfl, h2⟩ := h
    rw [List.lookup_cons] at e ⊢
    split at e
    · cases e
    · exact lookup_non h2 e
/-- what is known of the class of a name -/
structure ClsF (C : Ctx) (c : Str) : Prop where
  cls : ∀ A, C.mg c = some (.ref A) → Cls C.K A
def NoAt (C : Ctx) (c f : Str) : Prop := ∀ A, C.mg c = some (.ref A) → NoAttr C.K A f
def gAttr (c f : Str) (ga : DEnv → M Rv) : DEnv → M Rv := fun δ => bnd (ga δ) fun r st => match r.obj δ st with
  | some (c', fs) => if c' = c then (opt (fs.lookup f) fun d => ret (.fz d)) st else none
  | none => none
section
variable {C : Ctx} {o e : Expr} {es : List Expr} {ga gb : DEnv → M Rv} {gs : DEnv → M (List Rv)} {c f m x : Str} {p pos pos' apos : Pos} {n : Nat} {F : List D → M Rv}
theorem de_attr (hc : ClsF C c) (hn : NoAt C c f) (ha : DE C o ga) (hsup : noSup o = true := by rfl) : DE C (.Attribute o f pos) (gAttr c f ga) := fun X W ok tk => by
  refine peW (pe_fld (ha X W ok tk) (base_ok hsup)) fun σ H Q h => rdE_bnd h fun H0 F ρ δ st Hs H v r S R P => ?_
  cases q : r.obj δ st with
  | none => rw [q] at P; exact P.elim
  | some z =>
    obtain ⟨c', fs⟩ := z
    rw [q] at P
    dsimp only at P
    split at P
    · rename_i hcc
      subst hcc
      obtain ⟨d, e1, P⟩ := opt_ok P
      obtain ⟨a, A, dx, fvs, rfl, h1, h2, h3, h4⟩ := obj_v S R q
      obtain ⟨v', l1, l2⟩ := lookup_rep h3 h4 e1
      have h1' : C.mg c' = some (.ref A) := by rw [← ok.mg]; exact h1
      exact ⟨a, A, dx, fvs, v', rfl, h2, by rw [ok.K]; exact hc.cls A h1', by rw [ok.K]; exact hn A h1', l1, PostE.done0 P S l2⟩
    · exact P.elim
/-! ### a store to an attribute of a cell -/
def putD (f : Str) (v : D) : List (Str × D) → List (Str × D)
  | [] => [(f, v)]
  | (g, x) :: r => if g = f then (g, v) :: r else (g, x) :: putD f v r
theorem putD_rep {g : GG} {F : Hp} {ρ : List Addr} {f : Str} {d : D} {v : V} (rd : Rep g F ρ d v) : ∀ {fs : List (Str × D)} {fvs : List (Str × V)}, fs.map Prod.fst = fvs.map Prod.fst → Reps g F ρ (fs.map Prod.snd) (fvs.map Prod.snd) →
    (putD f d fs).map Prod.fst = (putF f v fvs).map Prod.fst ∧ Reps g F ρ ((putD f d fs).map Prod.snd) ((putF f v fvs).map Prod.snd)
  | [], [], _, _ => ⟨rfl, .cons rd .nil⟩
  | [], _ :: _, h, _ => by cases h
  | (k, x) :: fs, [], h, _ => by cases h
  | (k, x) :: fs, (k', y) :: fvs, h, r => by
    simp only [List.map_cons, List.cons.injEq] at h
    obtain ⟨rfl, h2⟩ := h
    cases r with
    | cons r1 r2 =>
      unfold putD putF
      split
      · exact ⟨by simp [h2], .cons rd r2⟩
      · obtain ⟨i1, i2⟩ := putD_rep rd h2 r2
        exact ⟨by simp only [List.map_cons, i1], .cons r1 i2⟩
def cellO (st : Sto) (n : Nat) : Option (Str × List (Str × D)) := match cellAt st n with
  | some (.obj c fs) => some (c, fs)
  | _ => none
theorem cellO_eq {st : Sto} {n : Nat} {c : Str} {fs : List (Str × D)} (h : cellO st n = some (c, fs)) : st[n]? = some (some (.obj c fs)) := by
  unfold cellO cellAt at h
  split at h
  · rename_i w
    cases h
    split at w
    · cases w; assumption
    · cases w
  · cases h
def sAttr (c f : Str) (go gv : DEnv → M Rv) : GS := fun δ => sBnd (gFrz gv δ) δ fun rv => sBnd (go δ) δ fun ro st => match rv, ro with
  | .fz d, .fz (.loc n) => (match cellO st n with
    | some (c', fs) => if c' = c ∧ fs.length < 1000 then some (.nx δ, st.set n (some (.obj c (putD f d fs)))) else none
    | none => none)
  | _, _ => none
theorem swaps_attr {e o : Expr} {f : Str} {p : Pos} {l : Nat} {env : Env} : swapsWith e (some (.Attribute o f p)) l env = pure false := by
  cases e <;> rfl
theorem ds_attr {v : Expr} {gv go : DEnv → M Rv} (hc : ClsF C c) (hn : NoAt C c f) (ho : DE C o go) (hv : DE C v gv) : DS C (.Assign [.Attribute o f pos'] v pos) (sAttr c f go gv) := fun X W ok tk => by
  refine psW (ps_fld (ho X W ok tk) (de_frz hv X W ok tk) swaps_attr) fun D σ H ⟨E, F, ρ, δ, st, A, S, P⟩ => ?_
  refine ⟨E.H0, F, ρ, δ, st, S, PostS_bnd A P fun F1 ρ1 st1 H1 y rv A1 A1' S1 R1 P1 => ?_⟩
  refine ⟨E.H0, F1, ρ1, δ, st1, S1, PostS_bnd A1' P1 fun F2 ρ2 st2 H2 u ro A2 A2' S2 R2 P2 => ?_⟩
  match rv, ro, R1, R2, P2 with
  | .fz d, .fz (.loc n), R1, R2, P2 =>
    dsimp only at P2
    cases q : cellO st2 n with
    | none => rw [q] at P2; exact P2.elim
    | some z =>
      obtain ⟨c', fs⟩ := z
      rw [q] at P2
      dsimp only at P2
      split at P2
      · rename_i hcc
        obtain ⟨rfl, hl⟩ := hcc
        have q7 := cellO_eq q
        obtain ⟨a, k1, k2, C', dx, fvs, k3, k4, k5, k6⟩ := S2.sto.live n _ q7
        cases R2 with
        | loc k7 =>
          rw [k1] at k7; cases k7
          have h1' : C.mg c' = some (.ref C') := by rw [← ok.mg]; exact k3
          have hlen : fvs.length < 1000 := by have := congrArg List.length k5; simp only [List.length_map] at this; omega
          refine ⟨a, C', dx, fvs, rfl, k4, by rw [ok.K]; exact hc.cls C' h1', by rw [ok.K]; exact hn C' h1', hlen, ?_⟩
          have rd : Rep (xg X) F2 ρ2 d y := Rep.mono A2.ff A2.ex R1
          obtain ⟨i1, i2⟩ := putD_rep (f := f) rd k5 k6
          obtain ⟨A3, S3⟩ := cell_upd (c' := .obj c' (putD f d fs)) (o := .ins C' dx (putF f y fvs)) A2' S2 k1 k2 ⟨C', dx, _, k3, upd_same, i1, i2⟩
          exact P2 σ ρ2 F2 _ A3 S3
      · exact P2.elim
  | .ow _, _, _, _, P2 => exact P2.elim
  | .vw _, _, _, _, P2 => exact P2.elim
  | .fz _, .ow _, _, _, P2 => exact P2.elim
  | .fz _, .vw _, _, _, P2 => exact P2.elim
  | .fz _, .fz .non, _, _, P2 => exact P2.elim
  | .fz _, .fz (.bl _), _, _, P2 => exact P2.elim
  | .fz _, .fz (.int _), _, _, P2 => exact P2.elim
  | .fz _, .fz (.str _), _, _, P2 => exact P2.elim
  | .fz _, .fz (.tup _), _, _, P2 => exact P2.elim
  | .fz _, .fz (.lst _), _, _, P2 => exact P2.elim
  | .fz _, .fz (.rol _), _, _, P2 => exact P2.elim
  | .fz _, .fz (.obj _ _), _, _, P2 => exact P2.elim
  | .fz _, .fz (.dk _), _, _, P2 => exact P2.elim
  | .fz _, .fz (.dt _), _, _, P2 => exact P2.elim
  | .fz _, .fz (.ty _), _, _, P2 => exact P2.elim
  | .fz _, .fz (.exc _ _), _, _, P2 => exact P2.elim
  | .fz _, .fz (.tab _ _), _, _, P2 => exact P2.elim
/-! ### methods -/
/-- the class of the name c has a method m that keeps f's promise -/
def FnMeth (C : Ctx) (c m : Str) (n : Nat) (f : List D → M Rv) : Prop :=
  ∃ (fa : Addr) (fd : FuncData) (ps : List Str), (∀ A, C.mg c = some (.ref A) → Meth C.K A m fa) ∧ Binds C.K fd ps [] ∧ FnOk C.P C.w C.K C.mg C.base (L2.CX C.P C.w) C.k fa fd ps (spD C.gg (n + 1) f)
/-- self: the object itself, frozen or a cell -/
def Rv.selfD (δ : DEnv) (st : Sto) (c m : Str) (r : Rv) : Option D := match r with
  | .fz d => (match r.obj δ st with
    | some (c', fs) => if c' = c ∧ fs.lookup m = none then some d else none
    | none => none)
  | _ => none
def gMeth (c m : Str) (n : Nat) (F : List D → M Rv) (go : DEnv → M Rv) (gs : DEnv → M (List Rv)) : DEnv → M Rv := fun δ => bnd (go δ) fun r st => match r.selfD δ st c m with
  | some d => bnd (gs δ) (fun rs => opt (allD rs) fun ds => if ds.length = n then F (d :: ds) else fail) st
  | none => none
theorem selfD_v {g : GG} {H0 F H H1 : Hp} {ρ : List Addr} {δ : DEnv} {σ : L2.St} {st : Sto} {r : Rv} {v : V} {c m : Str} {d : D} (S : St0 g H0 F ρ δ st σ H) (R : RepR g F ρ δ σ H1 H r v) (e : r.selfD δ st c m = some d) :
    r = .fz d ∧ ∃ a C dx fvs, v = .ref a ∧ g.mg c = some (.ref C) ∧ H a = some (.ins C dx fvs) ∧ fvs.lookup m = none := by
  unfold Rv.selfD at e
  split at e
  · split at e
    · rename_i q
      split at e
      · rename_i hcc
        cases e
        obtain ⟨rfl, hl⟩ := hcc
        obtain ⟨a, C, dx, fvs, h1, h2, h3, h4, _⟩ := obj_v S R q
        exact ⟨rfl, a, C, dx, fvs, h1, h2, h3, lookup_non h4 hl⟩
      · cases e
    · cases e
  · cases e
theorem fnok_cast {X : Cx} (ok : CtxOk C X) {k : Nat} {fa : Addr} {fd : FuncData} {ps : List Str} (h4 : FnOk C.P C.w C.K C.mg C.base (L2.CX C.P C.w) k fa fd ps (spD C.gg n F)) : FnOk X.prog X.w X.K X.mg X.base (L2.CX X.prog X.w) k fa fd ps (spD (xg X) n F) := by
  have e1 : C.gg = xg X := by unfold Ctx.gg xg; rw [ok.K, ok.mg]
  rw [ok.prog, ok.w, ok.base, ← e1, ok.K, ok.mg]
  exact h4
theorem meth_rd {X : Cx} {W : WX} {A : Addr} {k : Nat} (hcls : ∀ A', (xg X).mg c = some (.ref A') → A' = A) {σ : L2.St} {H : Hp} {Q : VK} (h : rdE (xg X) W (gMeth c m n F ga gs) σ H Q) : tMethS A m (spD (xg X) (n + 1) F) (WE W) (rdE (xg X) W ga) (rdA (xg X) W gs) σ H Q := by
  refine rdE_bnd (k := fun δ r st => match r.selfD δ st c m with
    | some d => bnd (gs δ) (fun rs => opt (allD rs) fun ds => if ds.length = n then F (d :: ds) else fail) st
    | none => none) h fun H0 F0 ρ δ st Hs H v r S R P => ?_
  cases q : r.selfD δ st c m with
  | none => rw [q] at P; exact P.elim
  | some d =>
    rw [q] at P
    obtain ⟨rfl, a, C', dx, fvs, rfl, h1, h2, h3⟩ := selfD_v S R q
    obtain rfl := hcls C' h1
    refine ⟨a, dx, fvs, rfl, h2, h3, H0, F0, ρ, δ, st, S, PostA_bndE P fun F' ρ' st' H' vs rs A' S' R' P' => ?_⟩
    obtain ⟨ds, e2, P2⟩ := opt_ok P'
    split at P2
    · rename_i hl
      refine ⟨F', ρ', d :: ds, st', ⟨S'.fs, S'.sto⟩, .cons (Rep.mono A'.ff A'.ex R) (allD_ok R' e2), by simp [hl], PostF_of S' P2⟩
    · exact P2.elim
theorem de_meth {pl : Env → Sem Bool} (hc : ClsF C c) (hex : ∃ A, C.mg c = some (.ref A)) (hf : FnMeth C c m n F) (ho : DE C o ga) (ha : DA C (e :: es) gs) (hs : noStar e = true := by rfl) (hss : es.all noStar = true := by rfl)
    (ht : ∀ env : Env, eval (.Call (.Attribute o m apos) (e :: es) [] pos) env = (do
      let ov ← eval o env
      standAt apos.atName
      let (f, first) ← holding [ov] (getMethod ov m (pl env))
      callWith pos f first (backTo pos (starEach (e :: es) env)) (backToKw pos (keywordEach [] env))) := by intro _; rfl) (hh : C.hot = false := by rfl) :
    DE C (.Call (.Attribute o m apos) (e :: es) [] pos) (gMeth c m n F ga gs) := fun X W ok tk => by
  obtain ⟨fa, fd, ps, h1, h3, h4⟩ := hf
  obtain ⟨A, hA⟩ := hex
  refine peW (pe_methS (E := WE W) (pl := pl X.env) (ho X W ok tk) (C := A) (by rw [ok.K]; exact hc.cls A hA) (by rw [ok.K]; exact h1 A hA) (fnok_cast ok h4) (ok.room hh) (by rw [ok.K]; exact h3) (fun σ => passAt tk σ) (ha X W ok tk) (star_eq hs) (star_none (e := e) hss) (ht X.env)) fun σ H Q h => ?_
  exact meth_rd (k := 0) (fun A' hA' => by
    have : X.mg c = some (.ref A') := hA'
    rw [ok.mg, hA] at this
    cases this; rfl) h
theorem de_meth0 {pl : Env → Sem Bool} (hc : ClsF C c) (hex : ∃ A, C.mg c = some (.ref A)) (hf : FnMeth C c m 0 F) (ho : DE C o ga)
    (ht : ∀ env : Env, eval (.Call (.Attribute o m apos) [] [] pos) env = (do
      let ov ← eval o env
      standAt apos.atName
      let (f, first) ← holding [ov] (getMethod ov m (pl env))
      callWith pos f first (backTo pos (starEach [] env)) (backToKw pos (keywordEach [] env))) := by intro _; rfl) (hh : C.hot = false := by rfl) :
    DE C (.Call (.Attribute o m apos) [] [] pos) (gMeth c m 0 F ga gNil) := fun X W ok tk => by
  obtain ⟨fa, fd, ps, h1, h3, h4⟩ := hf
  obtain ⟨A, hA⟩ := hex
  refine peW (pe_methS0 (E := WE W) (pl := pl X.env) (ho X W ok tk) (C := A) (by rw [ok.K]; exact hc.cls A hA) (by rw [ok.K]; exact h1 A hA) (fnok_cast ok h4) (ok.room hh) (by rw [ok.K]; exact h3) (fun σ => passAt tk σ) (ht X.env)) fun σ H Q h => ?_
  have h2 := meth_rd (k := 0) (A := A) (fun A' hA' => by
    have : X.mg c = some (.ref A') := hA'
    rw [ok.mg, hA] at this
    cases this; rfl) h
  obtain ⟨H0, F0, ρ, δ, st, S, P⟩ := h2
  refine ⟨H0, F0, ρ, δ, st, S, ?_⟩
  match q : ga δ st, P with
  | none, P => exact P
  | some (.ex x, st'), P => exact P
  | some (.ok r, st'), P =>
    intro v ρ' F' H' A' S' R'
    obtain ⟨a, dx, fvs, e1, e2, e3, G0, F1, ρ1, δ1, st1, S1, P1⟩ := P v ρ' F' H' A' S' R'
    exact ⟨a, dx, fvs, e1, e2, e3, P1 [] ρ1 F1 H' .refl S1 .nil⟩
end
end DL

/-! DL22: new objects; cells made by expressions and changed through expressions. -/
namespace DL
open PySem PySem.Spec PyProof.Rows L2 TL
set_option autoImplicit false
/-! ### new objects -/
/-- the new object is a cell while __init__ runs -/
def isNon : Rv → Bool
  | .fz .non => true
  | _ => false
theorem isNon_eq : ∀ {r : Rv}, isNon r = true → r = .fz .non
  | .fz .non, _ => rfl
def mkM (c : Str) (F : List D → M Rv) (ds : List D) : M Nat := fun st => match F (.loc st.length :: ds) (st ++ [some (.obj c [])]) with
  | none => none
  | some (.ok r, st') => if isNon r then some (.ok st.length, st') else none
  | some (.ex x, st') => some (.ex x, st')
/-- from now on it is not changed -/
def iceM (c : Str) (k : Nat) : M Rv := fun st => match cellO st k with
  | some (c', fs) => if c' = c then some (.ok (.fz (.obj c fs)), st.set k none) else none
  | none => none
def gMakeC (c : Str) (n : Nat) (F : List D → M Rv) (gs : DEnv → M (List Rv)) : DEnv → M Rv := fun δ => bnd (gs δ) fun rs => opt (allD rs) fun ds => if ds.length = n then bnd (mkM c F ds) fun k => ret (.fz (.loc k)) else fail
def gMakeZ (c : Str) (n : Nat) (F : List D → M Rv) (gs : DEnv → M (List Rv)) : DEnv → M Rv := fun δ => bnd (gs δ) fun rs => opt (allD rs) fun ds => if ds.length = n then bnd (mkM c F ds) (iceM c) else fail
section
variable {g : GG} {W : WX} {H0 F F' H H' : Hp} {ρ ρ' : List Addr} {δ : DEnv} {σ : L2.St} {st st' : Sto}
/-- a new address becomes a cell's -/
theorem sto_snoc {a : Addr} {c : Con} {o : HO} (S : StoOk g F ρ st H) (hn : a ∉ ρ) (ho : H a = some o) (hF : F a = none) (k : ConOk g F ρ H a c) : StoOk g F (ρ ++ [a]) (st ++ [some c]) H := by
  have p : ∃ l, ρ ++ [a] = ρ ++ l := ⟨[a], rfl⟩
  refine ⟨by rw [List.length_append, List.length_append, S.len]; rfl, List.nodup_append.mpr ⟨S.nd, by simp, fun x hx y hy z => ?_⟩, fun b hb => ?_, fun n cc h => ?_⟩
  · have : y = a := by simpa using hy
    subst this
    subst z
    exact hn hx
  · rcases List.mem_append.mp hb with z | z
    · exact S.there b z
    · have : b = a := by simpa using z
      subst this
      exact ⟨o, ho⟩
  · rcases getElem_snoc h with ⟨hn', h⟩ | ⟨hn', h⟩
    · obtain ⟨b, k1, k2, k3⟩ := S.live n cc h
      exact ⟨b, by rw [List.getElem?_append_left (by rw [S.len]; exact hn')]; exact k1, k2, k3.kept (Same.refl F) p fun o q => q⟩
    · cases h
      refine ⟨a, ?_, hF, k.kept (Same.refl F) p fun o q => q⟩
      rw [hn', ← S.len, List.getElem?_append_right (Nat.le_refl _)]
      simp
/-- a cell is frozen -/
theorem ice_ok {k : Nat} {c : Con} (S : St0 g H0 F ρ δ st σ H) (h : st[k]? = some (some c)) {x : Addr} (hx : ρ[k]? = some x) :
    St0 g H0 (DL.frzAt F H x) ρ δ (st.set k none) σ H ∧ Rep g (DL.frzAt F H x) ρ c.fz (.ref x) := by
  obtain ⟨a, k1, k2, k3⟩ := S.sto.live k c h
  rw [hx] at k1; cases k1
  have e := same_frz (a := x) S.fs
  have p : ∃ l, ρ = ρ ++ l := ⟨[], by simp⟩
  have hm : x ∈ ρ := List.mem_of_getElem? hx
  refine ⟨⟨frz_same S.fs, S.len, fun i sv q => ?_, S.dist, by rw [List.length_set]; exact S.sto.len, S.sto.nd, S.sto.there, fun n cc q => ?_⟩, k3.frz S.fs⟩
  · obtain ⟨v, h1, h2⟩ := S.slot i sv q
    refine ⟨v, h1, ?_⟩
    cases sv with
    | fz d => exact Rep.mono e p h2
    | ow c =>
      obtain ⟨b, rfl, e2, e3, e4, e5⟩ := h2
      refine ⟨b, rfl, ?_, e3, e4, e5.frzF e⟩
      rw [frz_ne (fun z => e3 (by rw [z]; exact hm))]
      exact e2
  · have hnk : n ≠ k := fun z => by
      subst z
      rw [List.getElem?_set_self (List.getElem?_eq_some_iff.mp h).1] at q
      cases q
    rw [List.getElem?_set_ne (Ne.symm hnk)] at q
    obtain ⟨b, h1, h2, h3⟩ := S.sto.live n cc q
    refine ⟨b, h1, ?_, h3.frzF e⟩
    rw [frz_ne]
    · exact h2
    · rintro rfl
      exact hnk ((List.getElem?_inj (List.getElem?_eq_some_iff.mp h1).1 S.sto.nd).mp (by rw [h1, hx]))
theorem ext_new2 {x dx : Addr} {o o' : HO} (h : Same F H) (nx : H x = none) (ndx : H dx = none) (ne : dx ≠ x) : Ext F H F (upd (upd H dx o) x o') := by
  have e1 := ext_new (o := o) h ndx
  have e2 := ext_new (o := o') e1.fs (p := x) (by rw [upd_ne (Ne.symm ne)]; exact nx)
  exact ⟨Same.refl _, e1.hh.trans e2.hh, fun a o h1 h2 => by (rw [h1] at h2; cases h2), e2.fs⟩
end
section
variable {C : Ctx} {e o : Expr} {es : List Expr} {ga gb : DEnv → M Rv} {gs : DEnv → M (List Rv)} {c x : Str} {p pos pos' apos p1 p2 : Pos} {n : Nat} {F : List D → M Rv}
/-- the class of the name c is made by f (its __init__, self first) -/
def FnMk (C : Ctx) (c : Str) (n : Nat) (f : List D → M Rv) : Prop :=
  ∃ (A fa : Addr) (fd : FuncData) (ps : List Str) (j : Nat), C.mg c = some (.ref A) ∧ Mk C.K A fa ∧ Binds C.K fd ps [] ∧ j + 1 ≤ C.k ∧ FnOk C.P C.w C.K C.mg C.base (L2.CX C.P C.w) j fa fd ps (spD C.gg (n + 1) f)
/-- the run of __init__ -/
theorem mk_sp {X : Cx} {W : WX} {H0 F1 H1 : Hp} {ρ1 : List Addr} {δ : DEnv} {σ : L2.St} {st1 : Sto} {ds : List D} {vs : List V} {A x dx : Addr} {Q : VK} {fin : Nat → M Rv} (hA : (xg X).mg c = some (.ref A)) (S : St0 (xg X) H0 F1 ρ1 δ st1 σ H1) (R : Reps (xg X) F1 ρ1 ds vs) (hl : ds.length = n)
    (nx : H1 x = none) (ndx : H1 dx = none) (ne : dx ≠ x) (P : PostE (xg X) W H0 F1 ρ1 δ σ H1 (bnd (mkM c F ds) fin st1) Q)
    (hfin : ∀ ρ' F' H' st', After ρ1 F1 H1 ρ' F' H' → St0 (xg X) H0 F' ρ' δ st' σ H' → ρ'[st1.length]? = some x → PostE (xg X) W H0 F1 ρ1 δ σ H1 (fin st1.length st') Q → Q (.ref x) H') :
    spD (xg X) (n + 1) F (.ref x :: vs) (upd (upd H1 dx (.own x)) x (.ins A dx [])) (fun v H2 => v = .non ∧ Q (.ref x) H2) (WE W σ) := by
  have e2 := ext_new2 (o := .own x) (o' := .ins A dx []) S.fs nx ndx ne
  have S2 := S.ext e2
  have hx : x ∉ ρ1 := S.nmem nx
  have hF : F1 x = none := S.fs.free nx
  have p : ∃ l, ρ1 ++ [x] = ρ1 ++ l := ⟨[x], rfl⟩
  have sto2 : StoOk (xg X) F1 (ρ1 ++ [x]) (st1 ++ [some (.obj c [])]) (upd (upd H1 dx (.own x)) x (.ins A dx [])) :=
    sto_snoc S2.sto hx upd_same hF ⟨A, dx, [], hA, upd_same, rfl, .nil⟩
  have A2 : After ρ1 F1 H1 (ρ1 ++ [x]) F1 (upd (upd H1 dx (.own x)) x (.ins A dx [])) :=
    ⟨Same.refl _, fun a o h1 h2 => by (rw [h1] at h2; cases h2), ⟨[x], rfl, fun a ha => by
      have : a = x := by simpa using ha
      subst this; exact ⟨nx, hx⟩⟩, fun a o h _ => e2.hh a o h⟩
  have hk : (ρ1 ++ [x])[st1.length]? = some x := by
    rw [← S.sto.len, List.getElem?_append_right (Nat.le_refl _)]
    simp
  refine ⟨F1, ρ1 ++ [x], .loc st1.length :: ds, st1 ++ [some (.obj c [])], ⟨S2.fs, sto2⟩, .cons (.loc hk) (R.mono (Same.refl _) p), by simp [hl], ?_⟩
  unfold bnd mkM at P
  cases q : F (.loc st1.length :: ds) (st1 ++ [some (.obj c [])]) with
  | none => rw [q] at P; exact P.elim
  | some o =>
    obtain ⟨o, st'⟩ := o
    rw [q] at P
    cases o with
    | ex y =>
      intro cc d ρ' F' H' A' S' R'
      exact P cc d ρ' F' H' (A2.trans A') (S.after (A2.trans A') S') R'
    | ok r =>
      dsimp only at P
      by_cases hr : isNon r = true
      · rw [if_pos hr] at P
        obtain rfl := isNon_eq hr
        intro v ρ' F' H' A' S' R'
        refine ⟨Rep.non_v R', ?_⟩
        refine hfin ρ' F' H' st' (A2.trans A') (S.after (A2.trans A') S') ?_ P
        obtain ⟨l, hl⟩ := A'.ex
        rw [hl, List.getElem?_append_left (List.getElem?_eq_some_iff.mp hk).1]
        exact hk
      · rw [if_neg hr] at P
        exact P.elim
theorem fin_C {X : Cx} {W : WX} {H0 F1 H1 : Hp} {ρ1 : List Addr} {δ : DEnv} {σ : L2.St} {st1 : Sto} {x : Addr} {Q : VK} : ∀ ρ' F' H' st', After ρ1 F1 H1 ρ' F' H' → St0 (xg X) H0 F' ρ' δ st' σ H' → ρ'[st1.length]? = some x → PostE (xg X) W H0 F1 ρ1 δ σ H1 ((ret (.fz (.loc st1.length)) : M Rv) st') Q → Q (.ref x) H' :=
  fun ρ' F' H' st' A' S' hx P => P _ ρ' F' H' A' S' (.loc hx)
theorem fin_Z {X : Cx} {W : WX} {H0 F1 H1 : Hp} {ρ1 : List Addr} {δ : DEnv} {σ : L2.St} {st1 : Sto} {x : Addr} {Q : VK} (nx : H1 x = none) : ∀ ρ' F' H' st', After ρ1 F1 H1 ρ' F' H' → St0 (xg X) H0 F' ρ' δ st' σ H' → ρ'[st1.length]? = some x → PostE (xg X) W H0 F1 ρ1 δ σ H1 (iceM c st1.length st') Q → Q (.ref x) H' :=
  fun ρ' F' H' st' A' S' hx P => by
    unfold iceM at P
    cases q : cellO st' st1.length with
    | none => rw [q] at P; exact P.elim
    | some z =>
      obtain ⟨c', fs⟩ := z
      rw [q] at P
      dsimp only at P
      split at P
      · rename_i hcc
        subst hcc
        obtain ⟨S2, R2⟩ := ice_ok S' (cellO_eq q) hx
        refine P _ ρ' _ H' ⟨A'.ff.trans (same_frz S'.fs), fun b o h1 h2 => ?_, A'.pre, A'.hk⟩ S2 R2
        by_cases hb : b = x
        · subst hb; exact .inl nx
        · rw [frz_ne hb] at h1
          exact A'.fn b o h1 h2
      · exact P.elim
theorem make_rd {X : Cx} {W : WX} {A : Addr} {fin : Nat → M Rv} (hA : (xg X).mg c = some (.ref A)) {σ : L2.St} {H : Hp} {Q : VK}
    (hfin : ∀ {H0 F1 H1 : Hp} {ρ1 : List Addr} {δ : DEnv} {st1 : Sto} {x : Addr}, H1 x = none → ∀ ρ' F' H' st', After ρ1 F1 H1 ρ' F' H' → St0 (xg X) H0 F' ρ' δ st' σ H' → ρ'[st1.length]? = some x → PostE (xg X) W H0 F1 ρ1 δ σ H1 (fin st1.length st') Q → Q (.ref x) H')
    (h : rdE (xg X) W (fun δ => bnd (gs δ) fun rs => opt (allD rs) fun ds => if ds.length = n then bnd (mkM c F ds) fin else fail) σ H Q) : tMakeE A (spD (xg X) (n + 1) F) (WE W) (rdA (xg X) W gs) σ H Q := by
  obtain ⟨H0, F0, ρ, δ, st, S, P⟩ := h
  refine ⟨H0, F0, ρ, δ, st, S, PostA_bndE P fun F' ρ' st' H' vs rs A' S' R' P' => ?_⟩
  obtain ⟨ds, e2, P2⟩ := opt_ok P'
  split at P2
  · rename_i hl
    exact fun x dx nx ndx ne => mk_sp hA S' (allD_ok R' e2) hl nx ndx ne P2 (hfin nx)
  · exact P2.elim
theorem mk_cast {X : Cx} (ok : CtxOk C X) {j : Nat} {fa : Addr} {fd : FuncData} {ps : List Str} (h4 : FnOk C.P C.w C.K C.mg C.base (L2.CX C.P C.w) j fa fd ps (spD C.gg (n + 1) F)) : FnOk X.prog X.w X.K X.mg X.base (L2.CX X.prog X.w) j fa fd ps (spD (xg X) (n + 1) F) := by
  have e1 : C.gg = xg X := by unfold Ctx.gg xg; rw [ok.K, ok.mg]
  rw [ok.prog, ok.w, ok.base, ← e1, ok.K, ok.mg]
  exact h4
theorem de_makeC (hf : FnMk C c n F) (hg : Glo C c) (ha : DA C (e :: es) gs) (hdb : (c == ("__debug__" : Str)) = false := by decide) (hs : noStar e = true := by rfl) (hss : es.all noStar = true := by rfl) (hh : C.hot = false := by rfl) :
    DE C (.Call (.Name c p) (e :: es) [] pos) (gMakeC c n F gs) := fun X W ok tk => by
  obtain ⟨A, fa, fd, ps, j, h1, h2, h3, h5, h4⟩ := hf
  have hA : X.mg c = some (.ref A) := by rw [ok.mg]; exact h1
  exact peW (pe_makeS (E := WE W) (by rw [ok.K]; exact h2) (mk_cast ok h4) ((ok.room hh).mono h5) (ok.glo hg) hA (by rw [ok.K]; exact h3) (fun σ => passAt tk σ) (ha X W ok tk) hdb (star_eq hs) (star_none (e := e) hss)) fun σ H Q h => make_rd hA (fun _ => fin_C) h
theorem de_makeZ (hf : FnMk C c n F) (hg : Glo C c) (ha : DA C (e :: es) gs) (hdb : (c == ("__debug__" : Str)) = false := by decide) (hs : noStar e = true := by rfl) (hss : es.all noStar = true := by rfl) (hh : C.hot = false := by rfl) :
    DE C (.Call (.Name c p) (e :: es) [] pos) (gMakeZ c n F gs) := fun X W ok tk => by
  obtain ⟨A, fa, fd, ps, j, h1, h2, h3, h5, h4⟩ := hf
  have hA : X.mg c = some (.ref A) := by rw [ok.mg]; exact h1
  exact peW (pe_makeS (E := WE W) (by rw [ok.K]; exact h2) (mk_cast ok h4) ((ok.room hh).mono h5) (ok.glo hg) hA (by rw [ok.K]; exact h3) (fun σ => passAt tk σ) (ha X W ok tk) hdb (star_eq hs) (star_none (e := e) hss)) fun σ H Q h => make_rd hA (fun nx => fin_Z nx) h
/-! ### cells made by expressions -/
def gCell (ga : DEnv → M Rv) : DEnv → M Rv := fun δ => bnd (ga δ) fun r st => match r with
  | .ow c => some (.ok (.fz (.loc st.length)), st ++ [some c])
  | _ => none
theorem de_cell (ha : DE C e ga) : DE C e (gCell ga) := fun X W ok tk => by
  refine peW (ha X W ok tk) fun σ H Q ⟨H0, F, ρ, δ, st, S, P⟩ => ?_
  refine ⟨H0, F, ρ, δ, st, S, PostE_bnd0 P fun F1 ρ1 st1 H1 v r A1 S1 R1 P1 => ?_⟩
  cases r with
  | fz d => exact P1.elim
  | vw j => exact P1.elim
  | ow c =>
    obtain ⟨a, rfl, e2, e3, e4, e5⟩ := R1
    obtain ⟨o, ho⟩ := e5.there
    have p : ∃ l, ρ1 ++ [a] = ρ1 ++ l := ⟨[a], rfl⟩
    have nown : ∀ (j : Nat) (c : Con) (b : Addr), δ[j]? = some (some (.ow c)) → σ[j]? = some (some (.ref b)) → b ≠ a := fun j c b h1 h2 z => by
      subst z
      obtain ⟨u, u1, a', rfl, _, _, _, k5⟩ := S.slot j _ h1
      rw [h2] at u1; cases u1
      obtain ⟨o, ho⟩ := k5.there
      rw [e4] at ho; cases ho
    refine P1 _ (ρ1 ++ [a]) F1 H1 ⟨A1.ff, A1.fn, ?_, A1.hk⟩ ⟨S1.fs, S1.len, fun j s h => ?_, S1.dist, sto_snoc S1.sto e3 ho e2 e5⟩ (.loc ?_)
    · obtain ⟨l, hl, hn⟩ := A1.pre
      refine ⟨l ++ [a], by rw [hl, List.append_assoc], fun b hb => ?_⟩
      rcases List.mem_append.mp hb with z | z
      · exact hn b z
      · have : b = a := by simpa using z
        subst this
        exact ⟨e4, fun z => e3 (A1.mem z)⟩
    · obtain ⟨u, u1, u2⟩ := S1.slot j s h
      refine ⟨u, u1, ?_⟩
      cases s with
      | fz d => exact Rep.mono (Same.refl F1) p u2
      | ow cc =>
        obtain ⟨b, rfl, k2, k3, k4, k5⟩ := u2
        refine ⟨b, rfl, k2, fun z => ?_, k4, k5.kept (Same.refl F1) p fun o q => q⟩
        rcases List.mem_append.mp z with z | z
        · exact k3 z
        · exact nown j cc b h u1 (by simpa using z)
    · rw [← S1.sto.len, List.getElem?_append_right (Nat.le_refl _)]
      simp
/-! ### methods that change a list in a cell -/
def sMutC (ga : DEnv → M Rv) (gs : DEnv → M (List Rv)) (f : List D → List D → Option (List D)) : GS := fun δ => sBnd (ga δ) δ fun r => match r with
  | .fz (.loc n) => fun st0 => match cellL st0 n with
    | some _ => sBnd (gs δ) δ (fun rs st => match cellL st n with
      | some ds => (match (allD rs).bind (f ds) with
        | some ds' => some (.nx δ, st.set n (some (.lst ds')))
        | none => none)
      | none => none) st0
    | none => none
  | _ => fun _ => none
theorem cellL_eq {st : Sto} {n : Nat} {ds : List D} (h : cellL st n = some ds) : st[n]? = some (some (.lst ds)) := by
  unfold cellL cellAt at h
  split at h
  · rename_i w
    cases h
    split at w
    · cases w; assumption
    · cases w
  · cases h
theorem ds_mutC {m : Str} {id : String} {f : List D → List D → Option (List D)} {r : V → List V → Hp → VK → Prop} (slot : Slot "list" m id) (hty : typeOf (.builtin id) = pure (.type "method_descriptor")) (hm : ∀ X, CtxOk C X → MtR X id r) (mu : MutL r f)
    (ho : DE C o ga) (ha : DA C (e :: es) gs) (hsup : noSup o = true := by rfl) (hs : (e :: es).all noStar = true := by rfl) (hl : decide ((e :: es).length < 30) = true := by rfl) (hline : (apos.endLine == p1.line) = true := by rfl) :
    DS C (.Expr (.Call (.Attribute o m apos) (e :: es) [] p1) pos) (sMutC ga gs f) := fun X W ok tk => by
  have hs2 : noStar e = true ∧ es.all noStar = true := by rw [List.all_cons, Bool.and_eq_true] at hs; exact hs
  refine psW (ps_expr (pe_bm PySem.F.plainAttrs_list slot hty (hm X ok) (ho X W ok tk) (ha X W ok tk) (base_ok hsup) (few_ok hs hl) hline (star_eq hs2.1) (star_none (e := e) hs2.2)) rfl) fun D σ H ⟨E, F, ρ, δ, st, A, S, P⟩ => ?_
  unfold sMutC at P
  refine ⟨E.H0, F, ρ, δ, st, S, PostS_bnd A P fun F1 ρ1 st1 H1 v x A1 A1' S1 R1 P1 => ?_⟩
  match x, R1, P1 with
  | .fz (.loc n), R1, P1 =>
    dsimp only at P1
    cases q0 : cellL st1 n with
    | none => rw [q0] at P1; exact P1.elim
    | some ds0 =>
      rw [q0] at P1
      obtain ⟨a0, j1, j2, xs0, j3, j4⟩ := S1.sto.live n _ (cellL_eq q0)
      cases R1 with
      | loc k5 =>
        rw [j1] at k5; cases k5
        refine ⟨.inl ⟨rfl, xs0, .of j3⟩, E.H0, F1, ρ1, δ, st1, S1, PostS_bndA A1' P1 fun F2 ρ2 st2 H2 vs rs A2 A2' S2 R2 P2 => ?_⟩
        cases q1 : cellL st2 n with
        | none => rw [q1] at P2; exact P2.elim
        | some ds =>
          rw [q1] at P2
          dsimp only at P2
          cases q3 : allD rs with
          | none => rw [q3] at P2; exact P2.elim
          | some es' =>
            rw [q3] at P2
            have r3 := allD_ok R2 q3
            cases q4 : f ds es' with
            | none => rw [show (some es').bind (f ds) = f ds es' from rfl, q4] at P2; exact P2.elim
            | some ds' =>
              rw [show (some es').bind (f ds) = f ds es' from rfl, q4] at P2
              obtain ⟨a1, k1, k2, xs, k3, k4⟩ := S2.sto.live n _ (cellL_eq q1)
              obtain ⟨l, hl2⟩ := A2.ex
              have : ρ2[n]? = some a0 := by rw [hl2, List.getElem?_append_left (List.getElem?_eq_some_iff.mp j1).1]; exact j1
              rw [k1] at this; cases this
              refine mu _ F2 ρ2 ds es' ds' xs vs a0 H2 _ S2.fs k3 k4 r3 q4 fun ys ry => ?_
              obtain ⟨A3, S3⟩ := cell_upd (c' := .lst ds') (o := .lst ys) A2' S2 k1 k2 ⟨_, upd_same, ry⟩
              exact P2 σ ρ2 F2 _ A3 S3
  | .ow _, _, P1 => exact P1.elim
  | .vw _, _, P1 => exact P1.elim
  | .fz .non, _, P1 => exact P1.elim
  | .fz (.bl _), _, P1 => exact P1.elim
  | .fz (.int _), _, P1 => exact P1.elim
  | .fz (.str _), _, P1 => exact P1.elim
  | .fz (.tup _), _, P1 => exact P1.elim
  | .fz (.lst _), _, P1 => exact P1.elim
  | .fz (.rol _), _, P1 => exact P1.elim
  | .fz (.obj _ _), _, P1 => exact P1.elim
  | .fz (.dk _), _, P1 => exact P1.elim
  | .fz (.dt _), _, P1 => exact P1.elim
  | .fz (.ty _), _, P1 => exact P1.elim
  | .fz (.exc _ _), _, P1 => exact P1.elim
  | .fz (.tab _ _), _, P1 => exact P1.elim
end
end DL

/-! DL23: [.. for .. in .. for .. in ..]. -/
namespace DL
open PySem PySem.Spec PyProof.Rows L2 TL
set_option autoImplicit false
/-- no slot is owned that was not owned before -/
def Keeps (t : GT) : Prop := ∀ d δ δ1, t d δ = some δ1 → ∀ (i : Nat) (c : Con), δ1[i]? = some (some (.ow c)) → δ[i]? = some (some (.ow c))
def KeepsS (t : GTs) : Prop := ∀ d δ δ1, t d δ = some δ1 → ∀ (i : Nat) (c : Con), δ1[i]? = some (some (.ow c)) → δ[i]? = some (some (.ow c))
theorem keeps_name {i : Nat} : Keeps (tName i) := fun d δ δ1 h j c q => by
  unfold tName at h
  cases h
  by_cases z : i = j
  · subst z
    by_cases hi : i < δ.length
    · rw [List.getElem?_set_self hi] at q; cases q
    · rw [List.getElem?_eq_none (by simpa using hi)] at q; cases q
  · rw [List.getElem?_set_ne z] at q; exact q
theorem keeps_nil : KeepsS tsNil := fun d δ δ1 h j c q => by
  unfold tsNil at h
  split at h
  · cases h; exact q
  · cases h
theorem keeps_cons {t : GT} {ts : GTs} (h1 : Keeps t) (h2 : KeepsS ts) : KeepsS (tsCons t ts) := fun d δ δ1 h j c q => by
  unfold tsCons at h
  split at h
  · rename_i d ds
    cases e : t d δ with
    | none => rw [e] at h; cases h
    | some δ2 =>
      rw [e] at h
      exact h1 _ _ _ e j c (h2 _ _ _ h j c q)
  · cases h
theorem keeps_tup {n : Nat} {ts : GTs} (h2 : KeepsS ts) : Keeps (tTupD n ts) := fun d δ δ1 h j c q => by
  unfold tTupD at h
  split at h
  · split at h
    · exact h2 _ _ _ h j c q
    · cases h
  · split at h
    · exact h2 _ _ _ h j c q
    · cases h
  · cases h
theorem wipeD_ow {δ : DEnv} {i : Nat} {s : SV} : ∀ {vs : List Nat}, (wipeD δ vs)[i]? = some (some s) → δ[i]? = some (some s) ∧ i ∉ vs
  | [], h => ⟨h, by simp⟩
  | v :: vs, h => by
    unfold wipeD at h
    by_cases z : v = i
    · subst z
      by_cases hi : v < (wipeD δ vs).length
      · rw [List.getElem?_set_self hi] at h; cases h
      · rw [List.getElem?_eq_none (by simpa using hi)] at h; cases h
    · rw [List.getElem?_set_ne z] at h
      obtain ⟨h1, h2⟩ := wipeD_ow h
      exact ⟨h1, by simp only [List.mem_cons, not_or]; exact ⟨fun e => z e.symm, h2⟩⟩
theorem bnd_assoc {α β γ : Type} (m : M α) (f : α → M β) (k : β → M γ) : bnd (bnd m f) k = bnd m fun a => bnd (f a) k := by
  funext st
  unfold bnd
  cases m st with
  | none => rfl
  | some o => obtain ⟨o, st'⟩ := o; cases o <;> rfl
def compG2 (t : GT) (tt : DEnv → M Bool) (gi1 : DEnv → M (List D)) (vs1 : List Nat) (t1 : GT) (tt1 : DEnv → M Bool) (te : DEnv → M Rv) (δ : DEnv) : List D → List D → M (List D)
  | [], acc => ret acc
  | d :: ds, acc => match t d δ with
    | none => fail
    | some δ1 => bnd (noEx (tt δ1)) fun b => if b then bnd (noEx (gi1 δ1)) fun ds1 => bnd (compG t1 tt1 te (wipeD δ1 vs1) ds1 acc) fun acc' => compG2 t tt gi1 vs1 t1 tt1 te δ ds acc'
      else compG2 t tt gi1 vs1 t1 tt1 te δ ds acc
def gLc2 (gi : DEnv → M (List D)) (vs : List Nat) (t : GT) (tt : DEnv → M Bool) (gi1 : DEnv → M (List D)) (vs1 : List Nat) (t1 : GT) (tt1 : DEnv → M Bool) (te : DEnv → M Rv) : DEnv → M Rv :=
  fun δ => bnd (gi δ) fun ds => bnd (compG2 t tt gi1 vs1 t1 tt1 te (wipeD δ vs) ds []) fun acc => ret (.ow (.lst acc))
theorem noEx_I {g : GG} {W : WX} {H0 F H : Hp} {ρ : List Addr} {δ δ1 : DEnv} {σ σ1 : L2.St} {st : Sto} {m : M (List D)} {k2 : List D → M Rv} {H1 F1 : Hp} {ρ1 : List Addr} {Q : VK} {R : It → Hp → Prop} (P : PostE g W H0 F1 ρ1 δ σ H1 (bnd (noEx m) k2 st) Q)
    (hk : ∀ F' ρ' st' H' J ds, After ρ F H ρ' F' H' → St0 g H0 F' ρ' δ1 st' σ1 H' → ItD g J ds F' ρ' → PostE g W H0 F1 ρ1 δ σ H1 (k2 ds st') Q → R J H') : PostI g W0 H0 F ρ δ1 σ1 H (m st) R := by
  unfold bnd noEx at P
  match e : m st, P with
  | none, P => exact P
  | some (.ok b, st'), P => exact fun J ρ' F' H' A' S' I' => hk F' ρ' st' H' J b A' S' I' P
  | some (.ex x, st'), P => exact P.elim
theorem noEx_T1 {g : GG} {W : WX} {H0 F H : Hp} {ρ : List Addr} {δ δ1 : DEnv} {σ σ1 : L2.St} {st : Sto} {m : M Bool} {k2 : Bool → M Rv} {H1 F1 : Hp} {ρ1 : List Addr} {Q : VK} {R : Bool → Hp → Prop} (P : PostE g W H0 F1 ρ1 δ σ H1 (bnd (noEx m) k2 st) Q)
    (hk : ∀ F' ρ' st' H' b, After ρ F H ρ' F' H' → St0 g H0 F' ρ' δ1 st' σ1 H' → PostE g W H0 F1 ρ1 δ σ H1 (k2 b st') Q → R b H') : PostT g W0 H0 F ρ δ1 σ1 H (m st) R := by
  unfold bnd noEx at P
  match e : m st, P with
  | none, P => exact P
  | some (.ok b, st'), P => exact fun ρ' F' H' A' S' => hk F' ρ' st' H' b A' S' P
  | some (.ex x, st'), P => exact P.elim
theorem noEx_E1 {g : GG} {W : WX} {H0 F H : Hp} {ρ : List Addr} {δ δ1 : DEnv} {σ σ1 : L2.St} {st : Sto} {m : M Rv} {k2 : Rv → M Rv} {H1 F1 : Hp} {ρ1 : List Addr} {Q : VK} {R : V → Hp → Prop} (P : PostE g W H0 F1 ρ1 δ σ H1 (bnd (noEx m) k2 st) Q)
    (hk : ∀ F' ρ' st' H' v r, After ρ F H ρ' F' H' → St0 g H0 F' ρ' δ1 st' σ1 H' → RepR g F' ρ' δ1 σ1 H H' r v → PostE g W H0 F1 ρ1 δ σ H1 (k2 r st') Q → R v H') : PostE g W0 H0 F ρ δ1 σ1 H (m st) R := by
  unfold bnd noEx at P
  match e : m st, P with
  | none, P => exact P
  | some (.ok b, st'), P => exact fun v ρ' F' H' A' S' R' => hk F' ρ' st' H' v b A' S' R' P
  | some (.ex x, st'), P => exact P.elim
/-- the state of the outer turn; K is what is done with the items at last -/
structure Fil (g : GG) (H0 F0 Hb : Hp) (ρ0 : List Addr) (F1 : Hp) (ρ1 : List Addr) (δ0 : DEnv) (σ0 : L2.St) (F : Hp) (ρ : List Addr) (st : Sto) (acc : List D) (xs : List V) (L : Addr) (H : Hp) : Prop where
  A : After ρ0 F0 Hb ρ F H
  e : Same F1 F
  p : ∃ l, ρ = ρ1 ++ l
  S : St0 g H0 F ρ δ0 st σ0 H
  f : F L = none
  n : L ∉ ρ
  h : H L = some (.lst xs)
  r : Reps g F ρ acc xs
theorem Fil.after {g : GG} {H0 F0 Hb F1 F F' H H' : Hp} {ρ0 ρ1 ρ ρ' : List Addr} {δ0 : DEnv} {σ0 : L2.St} {st st' : Sto} {acc : List D} {xs : List V} {L : Addr} (f : Fil g H0 F0 Hb ρ0 F1 ρ1 δ0 σ0 F ρ st acc xs L H) (A : After ρ F H ρ' F' H') (fs : Same F' H') (sto : StoOk g F' ρ' st' H') : Fil g H0 F0 Hb ρ0 F1 ρ1 δ0 σ0 F' ρ' st' acc xs L H' := by
  obtain ⟨l, hl⟩ := f.p
  obtain ⟨l', hl'⟩ := A.ex
  exact ⟨f.A.trans A, f.e.trans A.ff, ⟨l ++ l', by rw [hl', hl, List.append_assoc]⟩, f.S.later A fs sto, A.unf f.h f.n f.f, A.nmem f.n f.h, A.hk _ _ f.h f.n, f.r.mono A.ff A.ex⟩
theorem Fil.put {g : GG} {H0 F0 Hb F1 F H : Hp} {ρ0 ρ1 ρ : List Addr} {δ0 : DEnv} {σ0 : L2.St} {st : Sto} {acc : List D} {xs : List V} {L : Addr} {d : D} {y : V} (f : Fil g H0 F0 Hb ρ0 F1 ρ1 δ0 σ0 F ρ st acc xs L H) (bL : Hb L = none) (ns : ∀ (i : Nat) (c : Con), δ0[i]? = some (some (.ow c)) → σ0[i]? ≠ some (some (.ref L))) (R : Rep g F ρ d y) :
    Fil g H0 F0 Hb ρ0 F1 ρ1 δ0 σ0 F ρ st (acc ++ [d]) (xs ++ [y]) L (upd H L (.lst (xs ++ [y]))) :=
  ⟨f.A.fill bL, f.e, f.p, f.S.fill f.f f.n ns, f.f, f.n, upd_same, f.r.append (.cons R .nil)⟩
def CompB (g : GG) (W : WX) (H0 F0 Hb : Hp) (ρ0 : List Addr) (F1 : Hp) (ρ1 : List Addr) (δ0 : DEnv) (σ0 : L2.St) (m : List D → M Rv) (L : Addr) (Q : VK) (H : Hp) : Prop :=
  ∃ F ρ st acc xs, Fil g H0 F0 Hb ρ0 F1 ρ1 δ0 σ0 F ρ st acc xs L H ∧ PostE g W H0 F0 ρ0 δ0 σ0 Hb (m acc st) Q
def CompI (g : GG) (W : WX) (H0 F0 Hb : Hp) (ρ0 : List Addr) (F1 : Hp) (ρ1 : List Addr) (δ0 : DEnv) (σ0 : L2.St) (Fi : Hp) (ρi : List Addr) (δ1 : DEnv) (σ1 : L2.St) (m : List D → M Rv) (L : Addr) (Q : VK) (H : Hp) : Prop :=
  ∃ F ρ st acc xs, Fil g H0 F0 Hb ρ0 F1 ρ1 δ0 σ0 F ρ st acc xs L H ∧ Same Fi F ∧ (∃ l, ρ = ρi ++ l) ∧ St0 g H0 F ρ δ1 st σ1 H ∧ PostE g W H0 F0 ρ0 δ0 σ0 Hb (m acc st) Q
section
variable {C : Ctx} {tg iter tg1 iter1 elt : Expr} {ifs ifs1 : List Expr} {gi gi1 : DEnv → M (List D)} {t t1 : GT} {tt tt1 : DEnv → M Bool} {te : DEnv → M Rv} {pos : Pos} {T T1 : List Nat} {scope : Scope} {own : List (Str × Nat)}
theorem lc2_rd {X : Cx} {W : WX} {σ : L2.St} {H : Hp} {Q : VK} {vs vs1 : List Nat} (kp : Keeps t) (hT : ∀ i ∈ T, i ∈ vs) (hT1 : ∀ i ∈ T1, i ∈ vs1) (h : rdE (xg X) W (gLc2 gi vs t tt gi1 vs1 t1 tt1 te) σ H Q) :
    tLc2 (rdI (xg X) W gi) (rdG (xg X) t T) (rdT (xg X) W0 tt) (rdI (xg X) W0 gi1) (rdG (xg X) t1 T1) (rdT (xg X) W0 tt1) (rdE (xg X) W0 (gFrz te)) vs vs1 σ H Q := by
  obtain ⟨H0, F0, ρ0, δ, st, S0, P⟩ := h
  refine ⟨H0, F0, ρ0, δ, st, S0, ?_⟩
  unfold gLc2 at P
  match e : gi δ st, P with
  | none, P => unfold bnd at P; rw [e] at P; exact P
  | some (.ex x, st1), P => unfold bnd at P; rw [e] at P; exact P
  | some (.ok ds, st1), P =>
    have P : PostE (xg X) W H0 F0 ρ0 δ σ H (bnd (compG2 t tt gi1 vs1 t1 tt1 te (wipeD δ vs) ds []) (fun acc => ret (.ow (.lst acc))) st1) Q := by
      unfold bnd at P; rw [e] at P; exact P
    intro J ρ1 F1 H1 A1 S1 I1 L nL
    have nLρ : L ∉ ρ1 := S1.nmem nL
    have fL : F1 L = none := S1.fs.free nL
    have bL : H L = none := A1.back (fun z => nLρ (A1.mem z)) nL
    have ns : ∀ (i : Nat) (c : Con), δ[i]? = some (some (.ow c)) → σ[i]? ≠ some (some (.ref L)) := fun i c q z => by
      obtain ⟨u, u1, a, rfl, _, _, _, k⟩ := S0.slot i _ q
      rw [z] at u1; cases u1
      obtain ⟨o, ho⟩ := k.there
      rw [bL] at ho; cases ho
    refine ⟨fun i m H' => m = ds.length - i ∧ i ≤ ds.length ∧ CompB (xg X) W H0 F0 H ρ0 F1 ρ1 δ σ (fun acc => bnd (compG2 t tt gi1 vs1 t1 tt1 te (wipeD δ vs) (ds.drop i) acc) fun acc => ret (.ow (.lst acc))) L Q H',
      ⟨ds.length, by simp, Nat.zero_le _, F1, ρ1, st1, [], [], ⟨A1.fill bL, Same.refl _, ⟨[], by simp⟩, S1.fill fL nLρ ns, fL, nLρ, upd_same, .nil⟩, P⟩, ?_⟩
    rintro i m H2 ⟨rfl, hi, F2, ρ2, st2, acc, xs, f2, P2⟩
    by_cases hlt : i < ds.length
    · refine .inr ⟨I1.go f2.e f2.p f2.S.fs hlt, CompB (xg X) W H0 F0 H ρ0 F1 ρ1 δ σ (fun acc => bnd (compG2 t tt gi1 vs1 t1 tt1 te (wipeD δ vs) (ds.drop (i + 1)) acc) fun acc => ret (.ow (.lst acc))) L Q, fun H' h' => ⟨ds.length - (i + 1), by omega, rfl, hlt, h'⟩, fun x H3 hy => ?_⟩
      have hd : ds.drop i = ds[i] :: ds.drop (i + 1) := List.drop_eq_getElem_cons hlt
      rw [hd] at P2
      obtain ⟨F3, x3, r3⟩ := I1.yld f2.e f2.p f2.S.fs (List.getElem?_eq_getElem hlt) hy
      have S3 := f2.S.ext x3
      have f3 := f2.after x3.after S3.fs S3.sto
      unfold compG2 at P2
      refine ⟨H0, F3, ρ2, wipeD δ vs, st2, ds[i], wipe_ok S3 vs, r3, ?_⟩
      cases q : t ds[i] (wipeD δ vs) with
      | none => rw [q] at P2; exact P2.elim
      | some δ1 =>
        rw [q] at P2
        dsimp only at P2
        intro σ1 o1 S4
        have ns1 : ∀ (i : Nat) (c : Con), δ1[i]? = some (some (.ow c)) → σ1[i]? ≠ some (some (.ref L)) := fun j c w z => by
          obtain ⟨w1, w2⟩ := wipeD_ow (kp _ _ _ q j c w)
          refine ns j c w1 ?_
          rw [o1.2 j (fun z => w2 (hT j z)), wipe_out w2] at z
          exact z
        rw [bnd_assoc] at P2
        refine ⟨by rw [wipe_off hT o1]; exact wipe_off (T := vs) (fun i h => h) ⟨wipe_length σ vs, fun i h => wipe_out h⟩, H0, F3, ρ2, δ1, st2, S4, noEx_T1 P2 fun F4 ρ4 st4 H4 b A4 S5 P4 => ?_⟩
        have f4 := f3.after A4 S5.fs S5.sto
        cases b with
        | false =>
          simp only [Bool.false_eq_true, if_false] at P4 ⊢
          exact ⟨F4, ρ4, st4, acc, xs, f4, P4⟩
        | true =>
          simp only [if_true] at P4 ⊢
          rw [bnd_assoc] at P4
          refine ⟨H0, F4, ρ4, δ1, st4, S5, noEx_I P4 fun F5 ρ5 st5 H5 J1 ds1 A5 S6 I2 P5 => ?_⟩
          have f5 := f4.after A5 S6.fs S6.sto
          rw [bnd_assoc] at P5
          refine ⟨fun j m H' => m = ds1.length - j ∧ j ≤ ds1.length ∧ CompI (xg X) W H0 F0 H ρ0 F1 ρ1 δ σ F5 ρ5 δ1 σ1 (fun acc => bnd (compG t1 tt1 te (wipeD δ1 vs1) (ds1.drop j) acc) fun a => bnd (compG2 t tt gi1 vs1 t1 tt1 te (wipeD δ vs) (ds.drop (i + 1)) a) fun acc => ret (.ow (.lst acc))) L Q H',
            ⟨ds1.length, by simp, Nat.zero_le _, F5, ρ5, st5, acc, xs, f5, Same.refl _, ⟨[], by simp⟩, S6, P5⟩, ?_⟩
          rintro j m H6 ⟨rfl, hj, F6, ρ6, st6, acc6, xs6, f6, e6, p6, S7, P6⟩
          by_cases hjt : j < ds1.length
          · refine .inr ⟨I2.go e6 p6 S7.fs hjt, CompI (xg X) W H0 F0 H ρ0 F1 ρ1 δ σ F5 ρ5 δ1 σ1 (fun acc => bnd (compG t1 tt1 te (wipeD δ1 vs1) (ds1.drop (j + 1)) acc) fun a => bnd (compG2 t tt gi1 vs1 t1 tt1 te (wipeD δ vs) (ds.drop (i + 1)) a) fun acc => ret (.ow (.lst acc))) L Q, fun H' h' => ⟨ds1.length - (j + 1), by omega, rfl, hjt, h'⟩, fun x7 H7 hy7 => ?_⟩
            have hd1 : ds1.drop j = ds1[j] :: ds1.drop (j + 1) := List.drop_eq_getElem_cons hjt
            rw [hd1] at P6
            obtain ⟨F7, x8, r8⟩ := I2.yld e6 p6 S7.fs (List.getElem?_eq_getElem hjt) hy7
            have S8 := S7.ext x8
            have f7 := f6.after x8.after S8.fs S8.sto
            have e7 := e6.trans x8.ff
            unfold compG at P6
            refine ⟨H0, F7, ρ6, wipeD δ1 vs1, st6, ds1[j], wipe_ok S8 vs1, r8, ?_⟩
            cases q1 : t1 ds1[j] (wipeD δ1 vs1) with
            | none => rw [q1] at P6; exact P6.elim
            | some δ2 =>
              rw [q1] at P6
              dsimp only at P6
              intro σ2 o2 S9
              rw [bnd_assoc] at P6
              refine ⟨by rw [wipe_off hT1 o2]; exact wipe_off (T := vs1) (fun i h => h) ⟨wipe_length σ1 vs1, fun i h => wipe_out h⟩, H0, F7, ρ6, δ2, st6, S9, noEx_T1 P6 fun F9 ρ9 st9 H9 b A9 S10 P9 => ?_⟩
              have f9 := f7.after A9 S10.fs S10.sto
              have S11 := S8.later A9 S10.fs S10.sto
              have e9 := e7.trans A9.ff
              have p9 : ∃ l, ρ9 = ρ5 ++ l := by
                obtain ⟨l, hl⟩ := p6
                obtain ⟨l', hl'⟩ := A9.ex
                exact ⟨l ++ l', by rw [hl', hl, List.append_assoc]⟩
              cases b with
              | false =>
                simp only [Bool.false_eq_true, if_false] at P9 ⊢
                exact ⟨F9, ρ9, st9, acc6, xs6, f9, e9, p9, S11, P9⟩
              | true =>
                simp only [if_true] at P9 ⊢
                rw [bnd_assoc] at P9
                refine ⟨H0, F9, ρ9, δ2, st9, S10, noEx_E1 P9 fun F10 ρ10 st10 H10 y r A10 S12 R10 P10 => ?_⟩
                have f10 := f9.after A10 S12.fs S12.sto
                have S13 := S11.later A10 S12.fs S12.sto
                have e10 := e9.trans A10.ff
                have p10 : ∃ l, ρ10 = ρ5 ++ l := by
                  obtain ⟨l, hl⟩ := p9
                  obtain ⟨l', hl'⟩ := A10.ex
                  exact ⟨l ++ l', by rw [hl', hl, List.append_assoc]⟩
                match r, R10, P10 with
                | .ow c, _, P10 => exact P10.elim
                | .vw j, _, P10 => exact P10.elim
                | .fz d, R10, P10 =>
                  dsimp only at P10
                  by_cases hl : acc6.length < LIM
                  · rw [if_pos hl] at P10
                    exact ⟨xs6, f10.h, by rw [← f10.r.length, lim_eq]; exact hl, F10, ρ10, st10, acc6 ++ [d], xs6 ++ [y], f10.put bL ns R10, e10, p10, S13.fill f10.f f10.n ns1, P10⟩
                  · rw [if_neg hl] at P10; exact P10.elim
          · have : j = ds1.length := by omega
            subst this
            rw [List.drop_length] at P6
            exact .inl ⟨I2.stop e6 p6 S7.fs (Nat.le_refl _), F6, ρ6, st6, acc6, xs6, f6, P6⟩
    · have : i = ds.length := by omega
      subst this
      rw [List.drop_length] at P2
      exact .inl ⟨I1.stop f2.e f2.p f2.S.fs (Nat.le_refl _), P2 (.ref L) ρ2 F2 H2 f2.A f2.S ⟨L, rfl, f2.f, f2.n, bL, xs, f2.h, f2.r⟩⟩
theorem de_lc2 {vs1 : List Nat} (kp : Keeps t) (hi : DI C tg iter gi) (bk : blkC C.N C.sc scope own = true) (hg : DG (C.blk scope) tg t T) (ht : DTs (C.blk scope) ifs tt) (hi1 : DI (C.blk scope) tg1 iter1 gi1) (hg1 : DG (C.blk scope) tg1 t1 T1) (ht1 : DTs (C.blk scope) ifs1 tt1) (he : DE (C.blk scope) elt te)
    (hv : ∀ i ∈ vs1, i ∈ own.map (·.2) := by decide) (hT : ∀ i ∈ T, i ∈ own.map (·.2) := by decide) (hT1 : ∀ i ∈ T1, i ∈ vs1 := by decide) (hs : ∀ (env : Env) x, foldedSetIterable iter env x = pure x := by intro _ _; rfl) (hs1 : ∀ (env : Env) x, foldedSetIterable iter1 env x = pure x := by intro _ _; rfl) (hh : C.hot = false := by rfl) :
    DE C (.ListComp elt [⟨tg, iter, ifs, 0⟩, ⟨tg1, iter1, ifs1, 0⟩] scope pos) (gLc2 gi (own.map (·.2)) t tt gi1 vs1 t1 tt1 te) := fun X W ok tk => by
  refine peW (pe_lc2 (X := X) (own := own) (vs1 := vs1) (g := rdG (xg X) t T) (tt := rdT (xg X) W0 tt) (te := rdE (xg X) W0 (gFrz te)) (wi1 := rdI (xg X) W0 gi1) (g1 := rdG (xg X) t1 T1) (tt1 := rdT (xg X) W0 tt1) (ok.calm hh) (by rw [ok.N]; exact ok.nd) (hi X W ok tk) (by rw [ok.N, ok.sc]; exact blkOk_by bk) hv
    (fun s H L cl fp => hg _ W0 (ok.blk scope s H L cl fp) takes0) (fun s H L cl fp => ht _ W0 (ok.blk scope s H L cl fp) takes0) (fun s H L cl fp => hi1 _ W0 (ok.blk scope s H L cl fp) takes0) (fun s H L cl fp => hg1 _ W0 (ok.blk scope s H L cl fp) takes0) (fun s H L cl fp => ht1 _ W0 (ok.blk scope s H L cl fp) takes0) (fun s H L cl fp => de_frz he _ W0 (ok.blk scope s H L cl fp) takes0) (hs _) hs1) fun σ H Q h => lc2_rd kp hT hT1 h
variable {y : Str} {py spos : Pos} {k : Nat}
theorem ds_setLc2 {vs1 : List Nat} (hN : C.N[k]? = some y) (hy : C.sc.names.lookup y = some .local) (hl : (py.line == pos.line) = true) (hk : C.sc.kind = .function) (ha : (scope.names.any fun (n, k) => n == y && (k == .local || k == .cell)) = false)
    (kp : Keeps t) (hi : DI C tg iter gi) (bk : blkC C.N C.sc scope own = true) (hg : DG (C.blk scope) tg t T) (ht : DTs (C.blk scope) ifs tt) (hi1 : DI (C.blk scope) tg1 iter1 gi1) (hg1 : DG (C.blk scope) tg1 t1 T1) (ht1 : DTs (C.blk scope) ifs1 tt1) (he : DE (C.blk scope) elt te)
    (hv : ∀ i ∈ vs1, i ∈ own.map (·.2) := by decide) (hT : ∀ i ∈ T, i ∈ own.map (·.2) := by decide) (hT1 : ∀ i ∈ T1, i ∈ vs1 := by decide) (hs : ∀ (env : Env) x, foldedSetIterable iter env x = pure x := by intro _ _; rfl) (hs1 : ∀ (env : Env) x, foldedSetIterable iter1 env x = pure x := by intro _ _; rfl) (hh : C.hot = false := by rfl) :
    DS C (.Assign [.Name y py] (.ListComp elt [⟨tg, iter, ifs, 0⟩, ⟨tg1, iter1, ifs1, 0⟩] scope pos) spos) (sSet k (gLc2 gi (own.map (·.2)) t tt gi1 vs1 t1 tt1 te)) := fun X W ok tk => by
  refine psW (ps_setLc2 (X := X) (i := k) (own := own) (vs1 := vs1) (g := rdG (xg X) t T) (tt := rdT (xg X) W0 tt) (te := rdE (xg X) W0 (gFrz te)) (wi1 := rdI (xg X) W0 gi1) (g1 := rdG (xg X) t1 T1) (tt1 := rdT (xg X) W0 tt1) (ok.calm hh) (by rw [ok.N]; exact ok.nd) (by rw [ok.N]; exact hN) (by rw [ok.sc]; exact hy)
    (sw_true (by rw [ok.sc]; exact hk) (by rw [ok.sc]; exact hy) hl ha) (hi X W ok tk) (by rw [ok.N, ok.sc]; exact blkOk_by bk) hv
    (fun s H L cl fp => hg _ W0 (ok.blk scope s H L cl fp) takes0) (fun s H L cl fp => ht _ W0 (ok.blk scope s H L cl fp) takes0) (fun s H L cl fp => hi1 _ W0 (ok.blk scope s H L cl fp) takes0) (fun s H L cl fp => hg1 _ W0 (ok.blk scope s H L cl fp) takes0) (fun s H L cl fp => ht1 _ W0 (ok.blk scope s H L cl fp) takes0) (fun s H L cl fp => de_frz he _ W0 (ok.blk scope s H L cl fp) takes0) (hs _) hs1) fun D σ H h => ?_
  have h2 := set_rd h
  exact lc2_rd kp hT hT1 h2
end
end DL

/-! DL24: len(x) by the class's own __len__; text.index(sign); classes by the head's facts. -/
namespace DL
open PySem PySem.Spec PyProof.Rows L2 TL
set_option autoImplicit false
/-! ### own __len__ -/
section
variable {prog : Program} {w : World} {A : Around} {E : Value → Shared → Prop} {s : Shared} {K : PySem.W.Frag} {C a f : Addr} {ox : Obj} {od : Option Obj}
theorem len_own {Q : Value → Shared → Prop} (X : K.In s.heap) (I : PySem.W.InstAt s.heap a ox C od) (hm : Meth K C "__len__" f) 
    (h : wpAny (model prog w) A.in1 (call (.ref f) [.ref a]) (fun v s' => ∃ (n : Int) (u : Tok), v = .int n u ∧ 0 ≤ n ∧ n < 2 ^ 63 ∧ ∀ t, Q (.int n t) { s' with toks := s'.toks + 1 }) E s) : wpAny (model prog w) A (call (.builtin "len") [.ref a]) Q E s := by
  refine Calls.call_function_entry kind_len plain_len entry_len (args_len1 _) ?_
  unfold Builtin.«len»
  refine wpAny_bind (m := oneArg "len" _) (wpAny_pure ?_)
  refine wpAny_bind (m := callSpecial? (.ref a) (PySem.Str.ofString "__len__")) ?_
  unfold callSpecial? specialOf
  refine wpAny_bind (wpAny_bind (I.type.here ((PySem.W.looks_findIn X hm.at_).here ?_)))
  refine wpAny_holding ?_
  refine wpAny_bind ((PySem.W.bind_fn X _ (beq_iff_eq.mp hm.fn)).here ?_)
  refine wpAny_bind ?_
  refine wpAny_mono h (fun v s' z => ?_) fun _ _ z => z
  obtain ⟨n, u, rfl, h0, h1, q⟩ := z
  refine wpAny_pure ?_
  refine wpAny_bind (wpAny_holding (wpAny_pure ?_))
  refine wpAny_bind (wpAny_letGo ?_)
  show wpAny _ _ (if n < 0 then _ else _) _ _ _
  rw [if_neg (by omega)]
  show wpAny _ _ (if n ≥ 2 ^ 63 then _ else _) _ _ _
  rw [if_neg (by omega)]
  exact wpAny_bind (wpAny_mkInt (wpAny_pure ⟨_, rfl, q _⟩))
end
section
variable {X : Cx} {k : Nat} {fa Cc : Addr} {fd : FuncData} {ps : List Str} {sp : Sp}
theorem call_lenOwn (F : FnOk X.prog X.w X.K X.mg X.base (L2.CX X.prog X.w) k fa fd ps sp) (hr : Room (k + 1) X.A) (hb : Binds X.K fd ps []) (hm : Meth X.K Cc "__len__" fa) :
    CallR X (.builtin "len") (fun xs H Q => ∃ a dx fs, xs = [.ref a] ∧ H a = some (.ins Cc dx fs) ∧ sp [.ref a] H (fun v H' => ∃ n : Int, v = .int n ∧ 0 ≤ n ∧ n < 2 ^ 63 ∧ Q (.int n) H') (fun _ _ _ => False)) := by
  intro pins s σ H xs us Q I r h
  obtain ⟨a, dx, fs, rfl, ha, h⟩ := h
  obtain ⟨u, rfl, ru⟩ := vals1 r
  obtain rfl : u = Value.ref a := ru
  obtain ⟨mA, J, _⟩ := ins_get I.hok ha
  obtain ⟨od, J, _⟩ := J.look
  refine len_own I.kIn J hm ?_
  have hl : ([Value.ref a] : List Value).length = ps.length := F.len _ _ _ _ h
  have b := hb s [Value.ref a] I.kIn (by rw [List.append_nil]; exact hl)
  rw [List.append_nil] at b
  have hx : PassesAt (L2.CX X.prog X.w) X σ (WE W0 σ) := passAt takes0 σ
  refine wpAny_call (codeAny_mono (F.run X.A.in1 X.stack s H ⟨[Value.ref a], []⟩ [Value.ref a] [.ref a] _ (WE W0 σ) hr.in1 I.env0.in1 b (.cons rfl .nil) h) fun r s' hq => ?_)
  cases r with
  | error e => exact hx pins H s e s' I hq
  | ok fl =>
    cases fl with
    | ret u =>
      obtain ⟨z, H', I', rz, n, rfl, h0, h1, q⟩ := I.after hq
      obtain ⟨t, rfl⟩ := rz
      exact ⟨n, t, rfl, h0, h1, fun t => ⟨.int n, H', I'.tok _, ⟨t, rfl⟩, q⟩⟩
    | next => exact False.elim hq
    | brk => exact False.elim hq
    | cont => exact False.elim hq
end
section
variable {C : Ctx} {c : Str} {F : List D → M Rv}
def FnLen (C : Ctx) (c : Str) (f : List D → M Rv) : Prop :=
  ∃ (fa : Addr) (fd : FuncData) (ps : List Str) (j : Nat), (∀ A, C.mg c = some (.ref A) → Meth C.K A "__len__" fa) ∧ Binds C.K fd ps [] ∧ j + 1 ≤ C.k ∧ FnOk C.P C.w C.K C.mg C.base (L2.CX C.P C.w) j fa fd ps (spD C.gg 1 f)
def lenK (r : Rv) : M Rv := match r with
  | .fz (.int n) => if 0 ≤ n ∧ n < 2 ^ 63 then ret (.fz (.int n)) else fail
  | _ => fail
def kLenO (c : Str) (F : List D → M Rv) : KN := k1 fun δ x st => match x.selfD δ st c "__len__" with
  | some d => bnd (noEx (F [d])) lenK st
  | none => none
theorem ok_lenO (hex : ∃ A, C.mg c = some (.ref A)) (hf : FnLen C c F) (hh : C.hot = false := by rfl) : FnK C (.builtin "len") (kLenO c F) := fnK1 fun X ok => by
  obtain ⟨fa, fd, ps, j, h1, h2, h3, h4⟩ := hf
  obtain ⟨A, hA⟩ := hex
  refine ⟨_, call_lenOwn (mk_cast (n := 0) ok h4) ((ok.room hh).mono h3) (by rw [ok.K]; exact h2) (by rw [ok.K]; exact h1 A hA), fun W H0 F0 ρ δ st σ H Hs x v Q S R P => ?_⟩
  cases q : x.selfD δ st c "__len__" with
  | none => rw [q] at P; exact P.elim
  | some d =>
    rw [q] at P
    obtain ⟨rfl, a, C', dx, fvs, rfl, g1, g2, g3⟩ := selfD_v S R q
    have hC : C' = A := by
      have g1' : X.mg c = some (.ref C') := g1
      rw [ok.mg, hA] at g1'
      cases g1'; rfl
    subst hC
    refine ⟨a, dx, fvs, rfl, g2, F0, ρ, [d], st, ⟨S.fs, S.sto⟩, .cons R .nil, rfl, ?_⟩
    unfold bnd noEx at P
    dsimp only at P
    cases q2 : F [d] st with
    | none => simp only [q2] at P; exact P.elim
    | some o =>
      obtain ⟨o, st'⟩ := o
      simp only [q2] at P
      cases o with
      | ex y => exact P.elim
      | ok r =>
        intro v ρ' F' H' A' S' R'
        dsimp only at P
        unfold lenK at P
        split at P
        · split at P
          · rename_i n hn
            obtain rfl := Rep.int_v R'
            exact ⟨n, rfl, hn.1, hn.2, P (.int n) ρ' F' H' A' (S.after A' S') .int⟩
          · exact P.elim
        · exact P.elim
end
/-! ### text.index(sign) -/
theorem occ_idx {a : List Nat} {c i : Nat} (h : a.findIdx? (· == c) = some i) : ∃ rest, Builtin.Str.occurrences ⟨a.toArray⟩ ⟨[c].toArray⟩ 0 (⟨a.toArray⟩ : Str).length 1 = i :: rest := by
  rw [List.findIdx?_eq_some_iff_getElem] at h
  obtain ⟨hi, h1, h2⟩ := h
  have h1 : a[i] = c := by simpa using h1
  have hA : ∀ j, StrLaws.At ⟨a.toArray⟩ ⟨#[c]⟩ (⟨a.toArray⟩ : Str).length j ↔ a[j]? = some c := fun j => by
    have := StrLaws.subAt_one ⟨a.toArray⟩ c j
    exact this
  have hlen : (⟨a.toArray⟩ : Str).length = a.length := by simp [PySem.Str.length]
  rw [StrLaws.occ_eq]
  rcases StrLaws.occ_first ⟨a.toArray⟩ ⟨#[c]⟩ (⟨a.toArray⟩ : Str).length 1 (Nat.le_refl _) (List.range' 0 ((⟨a.toArray⟩ : Str).length + 1 - 0)) 0 (fun _ _ => Nat.zero_le _) with ⟨_, hn⟩ | ⟨pre, b, post, e, h0, hb, hn⟩
  · exact absurd ((hA i).mpr (by rw [List.getElem?_eq_getElem hi, h1])) (hn i (by rw [hlen]; simp; omega))
  · have hb2 := (hA b).mp hb
    obtain ⟨hbl, hbe⟩ := List.getElem?_eq_some_iff.mp hb2
    have e1 : b = i := by
      rcases Nat.lt_trichotomy b i with z | z | z
      · exact absurd (by simpa using hbe) (h2 b z)
      · exact z
      · exact absurd ((hA i).mpr (by rw [List.getElem?_eq_getElem hi, h1])) (hn i (StrLaws.range'_split (by simpa using e) i z))
    subst e1
    have hz : ∀ (z : Array Nat), z[0]? = some b → ∃ rest, z.toList = b :: rest := fun z hz => by
      obtain ⟨l⟩ := z
      cases l with
      | nil => simp at hz
      | cons x l => simp at hz; subst hz; exact ⟨l, rfl⟩
    exact hz _ h0
def sig1 : List D → Option Nat
  | [.str [c]] => some c
  | _ => none
theorem sig1_eq : ∀ {ds : List D} {c : Nat}, sig1 ds = some c → ds = [.str [c]]
  | [.str [c]], _, h => by cases h; rfl
def gSIx (ga : DEnv → M Rv) (gs : DEnv → M (List Rv)) : DEnv → M Rv := fun δ => bnd (ga δ) fun r => opt r.asS fun s => bnd (gs δ) fun rs => opt (allD rs) fun ds => opt (sig1 ds) fun c => opt (s.findIdx? (· == c)) fun i => ret (.fz (.int (i : Nat)))
section
variable {C : Ctx} {o e : Expr} {ga : DEnv → M Rv} {gs : DEnv → M (List Rv)} {pos apos : Pos}
theorem de_sindex (ho : DE C o ga) (hb : DA C [e] gs) (hsup : noSup o = true := by rfl) (hs : [e].all noStar = true := by rfl) (hline : (apos.endLine == pos.line) = true := by rfl) : DE C (.Call (.Attribute o "index" apos) [e] [] pos) (gSIx ga gs) := fun X W ok tk => by
  have hs2 : noStar e = true := by rw [List.all_cons, Bool.and_eq_true] at hs; exact hs.1
  refine peW (pe_bm PySem.F.plainAttrs_str PySem.F.slot_str_index PySem.F.type_str_index mt_sindex (ho X W ok tk) (hb X W ok tk) (base_ok hsup) (few_ok hs (by rfl)) hline (star_eq hs2) (star_none (e := e) rfl)) fun σ H Q h => rdE_bnd h fun H0 F ρ δ st Hs H v r S R P => ?_
  obtain ⟨s, e1, P⟩ := opt_ok P
  obtain rfl := asS_v R e1
  refine ⟨rfl, H0, F, ρ, δ, st, S, PostA_bndE P fun F' ρ' st' H' vs rs A' S' R' P' => ?_⟩
  obtain ⟨ds, e2, P2⟩ := opt_ok P'
  obtain ⟨c, e3, P3⟩ := opt_ok P2
  obtain ⟨i, e4, P4⟩ := opt_ok P3
  obtain rfl := sig1_eq e3
  have R2 := allD_ok R' e2
  cases R2 with
  | cons r1 r2 =>
    cases r2
    obtain rfl := Rep.str_v r1
    obtain ⟨rest, h⟩ := occ_idx e4
    exact ⟨_, _, i, rest, rfl, rfl, h, P4.done0 S' .int⟩
end
/-! ### classes by the head's facts -/
def HCls (K : PySem.W.Frag) (mg : Str → Option Value) (c : Str) : Prop := ∃ A, mg c = some (.ref A) ∧ Cls K A
def HNo (K : PySem.W.Frag) (mg : Str → Option Value) (c f : Str) : Prop := ∃ A, mg c = some (.ref A) ∧ NoAttr K A f
abbrev FnQ (K : PySem.W.Frag) (x q : Str) (st : Stmt) (f : Addr) (fd : FuncData) : Prop := FunD K x q (defArgs st) (defBody st) (defScope st) [] [] f fd
def HMeth (K : PySem.W.Frag) (mg : Str → Option Value) (c m q : Str) (st : Stmt) : Prop := ∃ A fa fd, mg c = some (.ref A) ∧ Meth K A m fa ∧ FnQ K m q st fa fd
def HMk (K : PySem.W.Frag) (mg : Str → Option Value) (c q : Str) (st : Stmt) : Prop := ∃ A fa fd, mg c = some (.ref A) ∧ Mk K A fa ∧ FnQ K "__init__" q st fa fd
section
variable {P : Program} {w : World} {K : PySem.W.Frag} {mg : Str → Option Value} {base : Heap} {k j n : Nat} {c m x q ff : Str} {F : List D → M Rv} {C : Ctx}
theorem HCls.f (h : HCls C.K C.mg c) : ClsF C c := ⟨fun A hA => by
  obtain ⟨B, h1, h2⟩ := h
  rw [hA] at h1; cases h1; exact h2⟩
theorem HCls.ex (h : HCls C.K C.mg c) : ∃ A, C.mg c = some (.ref A) := h.imp fun _ q => q.1
theorem HNo.f (h : HNo C.K C.mg c ff) : NoAt C c ff := fun A hA => by
  obtain ⟨B, h1, h2⟩ := h
  rw [hA] at h1; cases h1; exact h2
def FnMX (P : Program) (w : World) (K : PySem.W.Frag) (mg : Str → Option Value) (base : Heap) (k : Nat) (c m : Str) (n : Nat) (f : List D → M Rv) : Prop :=
  ∃ (fa : Addr) (fd : FuncData) (ps : List Str), (∀ A, mg c = some (.ref A) → Meth K A m fa) ∧ Binds K fd ps [] ∧ FnOk P w K mg base (L2.CX P w) k fa fd ps (spD ⟨K, mg⟩ (n + 1) f)
def FnKX (P : Program) (w : World) (K : PySem.W.Frag) (mg : Str → Option Value) (base : Heap) (k : Nat) (c : Str) (n : Nat) (f : List D → M Rv) : Prop :=
  ∃ (A fa : Addr) (fd : FuncData) (ps : List Str), mg c = some (.ref A) ∧ Mk K A fa ∧ Binds K fd ps [] ∧ FnOk P w K mg base (L2.CX P w) k fa fd ps (spD ⟨K, mg⟩ (n + 1) f)
theorem FnMX.at (h : FnMX C.P C.w C.K C.mg C.base j c m n F) (l : j ≤ C.k) : FnMeth C c m n F := by
  obtain ⟨fa, fd, ps, h1, h2, h3⟩ := h
  exact ⟨fa, fd, ps, h1, h2, h3.mono l⟩
theorem FnMX.len (h : FnMX C.P C.w C.K C.mg C.base j c "__len__" 0 F) (l : j + 1 ≤ C.k) : FnLen C c F := by
  obtain ⟨fa, fd, ps, h1, h2, h3⟩ := h
  exact ⟨fa, fd, ps, j, h1, h2, l, h3⟩
theorem FnKX.at (h : FnKX C.P C.w C.K C.mg C.base j c n F) (l : j + 1 ≤ C.k) : FnMk C c n F := by
  obtain ⟨A, fa, fd, ps, h1, h2, h3, h4⟩ := h
  exact ⟨A, fa, fd, ps, j, h1, h2, h3, l, h4⟩
theorem fnokQ {stm : Stmt} {fa : Addr} {fd : FuncData} {N ps : List Str} {gs : GS}
    (Fn : FnQ K x q stm fa fd) (Sc : FnScope N ps (defScope stm)) (hb : DSs ⟨P, w, K, mg, base, N, defScope stm, k, fun _ => true, false, none⟩ (defBody stm) gs) :
    FnOk P w K mg base (L2.CX P w) (k + 1) fa fd ps (spD ⟨K, mg⟩ ps.length (runB N gs)) := by
  refine FunD.ok Fn Sc (fun vs H Q E h => spD_len h) fun cdv A outer s H vs Q E hr h => ?_
  obtain ⟨F, ρ, ds, st, S, R, hl, Po⟩ := h
  have ok : CtxOk ⟨P, w, K, mg, base, N, defScope stm, k, fun _ => true, false, none⟩ (cxOf (L2.CX P w) P w K mg base N q (defScope stm) fa cdv A outer s H E) :=
    ⟨rfl, rfl, rfl, rfl, rfl, rfl, rfl, fun _ => rfl, fun _ => hr, hr.dp, hr.un, passes_of rfl, Sc.nd, fun _ _ => rfl, fun _ _ h => by cases h⟩
  refine ⟨_, hb _ (fun cls d _ H => E cls d H) ok (takes_of rfl rfl rfl (E := E) rfl), ?_⟩
  refine ⟨⟨H, F, ρ, F, ρ⟩, F, ρ, startD N ds, st, ⟨.refl, Same.refl F, ⟨[], by simp⟩⟩, start_ok S R, ?_⟩
  unfold runB at Po
  match e : gs (startD N ds) st, Po with
  | none, Po => exact Po
  | some (.nx δ', st'), Po => exact fun σ' ρ' F' H' A' S' => Po .non ρ' F' H' A'.a ⟨S'.fs, S'.sto⟩ .non
  | some (.rt r, st'), Po => exact fun v ρ' F' H' A' S' R' => Po v ρ' F' H' A'.a S' R'
  | some (.bk _, _), Po => exact Po.elim
  | some (.ct _, _), Po => exact Po.elim
  | some (.ex x δ', st'), Po => exact fun c d σ' ρ' F' H' A' S' R' => Po c d ρ' F' H' A'.a ⟨S'.fs, S'.sto⟩ R'
theorem fnmx {stm : Stmt} {N ps : List Str} {gs : GS} (h : HMeth K mg c m q stm) (Sc : FnScope N ps (defScope stm)) (hn : ps.length = n + 1)
    (hbd : ∀ (kV doc pm : Value) (an : Option Addr) (cdv ct : Value) (us : List Value), us.length = ps.length → bindArgs (PySem.W.fnOf m q (defArgs stm) (defBody stm) (defScope stm) .none kV doc pm an cdv ct) ⟨us, []⟩ = pure (ps.zip us))
    (hb : DSs ⟨P, w, K, mg, base, N, defScope stm, k, fun _ => true, false, none⟩ (defBody stm) gs) : FnMX P w K mg base (k + 1) c m n (runB N gs) := by
  obtain ⟨A, fa, fd, h1, h2, h3⟩ := h
  refine ⟨fa, fd, ps, fun B hB => by rw [h1] at hB; cases hB; exact h2, h3.bindsN hbd, ?_⟩
  rw [← hn]
  exact fnokQ h3 Sc hb
theorem fnkx {stm : Stmt} {N ps : List Str} {gs : GS} (h : HMk K mg c q stm) (Sc : FnScope N ps (defScope stm)) (hn : ps.length = n + 1)
    (hbd : ∀ (kV doc pm : Value) (an : Option Addr) (cdv ct : Value) (us : List Value), us.length = ps.length → bindArgs (PySem.W.fnOf "__init__" q (defArgs stm) (defBody stm) (defScope stm) .none kV doc pm an cdv ct) ⟨us, []⟩ = pure (ps.zip us))
    (hb : DSs ⟨P, w, K, mg, base, N, defScope stm, k, fun _ => true, false, none⟩ (defBody stm) gs) : FnKX P w K mg base (k + 1) c n (runB N gs) := by
  obtain ⟨A, fa, fd, h1, h2, h3⟩ := h
  refine ⟨A, fa, fd, ps, h1, h2, h3.bindsN hbd, ?_⟩
  rw [← hn]
  exact fnokQ h3 Sc hb
end
section
variable {C : Ctx} {o e : Expr} {ga : DEnv → M Rv} {gs : DEnv → M (List Rv)} {p1 pos apos : Pos}
theorem ds_appendC (ho : DE C o ga) (ha : DA C [e] gs) (hsup : noSup o = true := by rfl) (hs : [e].all noStar = true := by rfl) (hline : (apos.endLine == p1.line) = true := by rfl) :
    DS C (.Expr (.Call (.Attribute o "append" apos) [e] [] p1) pos) (sMutC ga gs fAppend) :=
  ds_mutC PySem.F.slot_list_append PySem.F.type_list_append (fun X ok => mt_append) mu_append ho ha hsup hs rfl hline
end
end DL

/-! DL25: while; list.index; list(range(a, b)). -/
namespace DL
open PySem PySem.Spec PyProof.Rows L2 TL
set_option autoImplicit false
/-! ### while, at most n tests -/
def whileG (tt : DEnv → M Bool) (body : GS) : Nat → GS
  | 0 => fun _ _ => none
  | n + 1 => fun δ => sBnd (tt δ) δ fun b st => if b then (match body δ st with
      | some (.nx δ2, st2) => whileG tt body n δ2 st2
      | some (.ct δ2, st2) => whileG tt body n δ2 st2
      | some (.bk δ2, st2) => some (.nx δ2, st2)
      | o => o) else some (.nx δ, st)
def sWhile (n : Nat) (tt : DEnv → M Bool) (body : GS) : GS := fun δ st => whileG tt body n δ st
section
variable {C : Ctx} {c : Expr} {tt : DEnv → M Bool} {body : GS} {sb : List Stmt} {pos : Pos} {n : Nat}
def WhileAt (g : GG) (W : WX) (E : En) (tt : DEnv → M Bool) (body : GS) (De : Ends) (m : Nat) (σ : L2.St) (H : Hp) : Prop :=
  ∃ F ρ δ st, Lat E ρ F H ∧ St0 g E.H0 F ρ δ st σ H ∧ PostS g W E (whileG tt body m δ st) De
theorem ds_while (hc : DT C c tt) (hb : DSs C sb body) : DS C (.While c sb [] pos) (sWhile n tt body) := fun X W ok tk => by
  refine psW (ps_while ok.pown (hc X W ok tk) (hb X W ok tk)) fun De σ H ⟨E, F, ρ, δ, st, A, S, P⟩ => ?_
  refine ⟨WhileAt (xg X) W E tt body De, ⟨n, F, ρ, δ, st, A, S, P⟩, ?_⟩
  rintro m σ2 H2 ⟨F2, ρ2, δ2, st2, A2, S2, P2⟩
  cases m with
  | zero => exact P2.elim
  | succ m =>
    unfold whileG at P2
    refine ⟨E.H0, F2, ρ2, δ2, st2, S2, PostS_bndT A2 P2 fun F3 ρ3 st3 H3 b A3 S3 P3 => ?_⟩
    cases b with
    | false => simp only [Bool.false_eq_true, if_false] at P3 ⊢; exact P3 σ2 ρ3 F3 H3 A3 S3
    | true =>
      simp only [if_true] at P3 ⊢
      refine ⟨WhileAt (xg X) W E tt body De m, fun σ' H' h => ⟨m, Nat.lt_succ_self m, h⟩, E, F3, ρ3, δ2, st3, A3, S3, ?_⟩
      match q2 : body δ2 st3, P3 with
      | none, P3 => exact P3
      | some (.nx δ', st'), P3 => exact fun σ' ρ' F' H' A' S' => ⟨F', ρ', δ', st', A', S', P3⟩
      | some (.ct δ', st'), P3 => exact fun σ' ρ' F' H' A' S' => ⟨F', ρ', δ', st', A', S', P3⟩
      | some (.bk δ', st'), P3 => exact fun σ' ρ' F' H' A' S' => P3 σ' ρ' F' H' A' S'
      | some (.rt r, st'), P3 => exact fun v ρ' F' H' A' S' R' => P3 v ρ' F' H' A' S' R'
      | some (.ex x δ', st'), P3 => exact fun c d σ' ρ' F' H' A' S' R' => P3 c d σ' ρ' F' H' A' S' R'
end
/-! ### list(range(a, b)) -/
section
variable {C : Ctx} {e e2 : Expr} {ga gb : DEnv → M Rv} {p p2 pos pos2 : Pos}
theorem de_lstR2 (hgl : Glo C "list") (hml : C.mg "list" = none) (hg : Glo C "range") (hm : C.mg "range" = none) (ha : DE C e ga) (hb : DE C e2 gb) (hn : noStar e = true := by rfl) (hn2 : noStar e2 = true := by rfl) (hh : C.hot = false := by rfl) : DE C (.Call (.Name "list" p) [.Call (.Name "range" p2) [e, e2] [] pos2] [] pos) (gLstR2 ga gb) := fun X W ok tk => by
  refine peW (pe_listRg (ok.calm hh) (ok.glo hgl) (by rw [ok.mg]; exact hml) (prg_2 (ok.glo hg) (by rw [ok.mg]; exact hm) (ha X W ok tk) (hb X W ok tk) (star_eq hn) (star_eq hn2) (star_none (e := e) (by show (noStar e2 && true) = true; rw [hn2]; rfl)))) fun σ H Q h => rdE_bnd h fun H0 F ρ δ st Hs H v r S R P => ?_
  refine ⟨H0, F, ρ, δ, st, S, PostE_bnd P fun F' ρ' st' H' u r' A' S' R' P' => ?_⟩
  obtain ⟨i, e1, P1⟩ := opt_ok P'
  obtain ⟨j, e2, P2⟩ := opt_ok P1
  split at P2
  · rename_i hj
    have h1 := okR_b hj.1
    have h2 := okR_b hj.2.1
    refine ⟨i, j, asI_v (R.mono A') e1, asI_v R' e2, ⟨h1.1, h1.2, h2.1, h2.2, by omega⟩, fun q nq => ?_⟩
    exact new_own P2 S' reps_range q nq
  · exact P2.elim
end
/-! ### list.index, of plain things -/
def one1 : List D → Option D
  | [d] => some d
  | _ => none
theorem one1_eq : ∀ {ds : List D} {d : D}, one1 ds = some d → ds = [d]
  | [d], _, h => by cases h; rfl
def lixK (δ : DEnv) (r : Rv) (es : List D) : M Rv := fun st => match r.asR δ st with
  | some ds => (opt (one1 es) fun d => if d.flat && ds.all D.flat then opt (ds.findIdx? fun x => eqF x d) fun i => ret (.fz (.int (i : Nat))) else fail) st
  | none => none
def gLIx (ga : DEnv → M Rv) (gs : DEnv → M (List Rv)) : DEnv → M Rv := fun δ => bnd (ga δ) fun r st0 => match r.asR δ st0 with
  | some _ => bnd (gs δ) (fun rs => opt (allD rs) fun es => lixK δ r es) st0
  | none => none
section
variable {C : Ctx} {o e : Expr} {ga : DEnv → M Rv} {gs : DEnv → M (List Rv)} {pos apos : Pos}
theorem de_lindex (ho : DE C o ga) (hb : DA C [e] gs) (hsup : noSup o = true := by rfl) (hs : [e].all noStar = true := by rfl) (hline : (apos.endLine == pos.line) = true := by rfl) : DE C (.Call (.Attribute o "index" apos) [e] [] pos) (gLIx ga gs) := fun X W ok tk => by
  have hs2 : noStar e = true := by rw [List.all_cons, Bool.and_eq_true] at hs; exact hs.1
  refine peW (pe_bm PySem.F.plainAttrs_list PySem.F.slot_list_index PySem.F.type_list_index mt_index (ho X W ok tk) (hb X W ok tk) (base_ok hsup) (few_ok hs (by rfl)) hline (star_eq hs2) (star_none (e := e) rfl)) fun σ H Q h => rdE_bnd h fun H0 F ρ δ st Hs H v r S R P => ?_
  cases q : r.asR δ st with
  | none => rw [q] at P; exact P.elim
  | some ds0 =>
    rw [q] at P
    obtain ⟨a, vs, rfl, h1, h2⟩ := asR_v S R q
    refine ⟨.inl ⟨rfl, vs, h1⟩, H0, F, ρ, δ, st, S, PostA_bndE P fun F' ρ' st' H' xs rs A' S' R' P' => ?_⟩
    obtain ⟨es, e2, P2⟩ := opt_ok P'
    unfold lixK at P2
    cases q2 : r.asR δ st' with
    | none => rw [q2] at P2; exact P2.elim
    | some ds =>
      rw [q2] at P2
      obtain ⟨d, e3, P3⟩ := opt_ok P2
      obtain rfl := one1_eq e3
      split at P3
      · rename_i hf
        rw [Bool.and_eq_true] at hf
        obtain ⟨i, e4, P4⟩ := opt_ok P3
        obtain ⟨a', vs', ea, h3, h4⟩ := asR_v S' (R.mono A') q2
        cases ea
        have R2 := allD_ok R' e2
        cases R2 with
        | cons r1 r2 =>
          cases r2
          rw [List.findIdx?_eq_some_iff_getElem] at e4
          obtain ⟨hi, k1, k2⟩ := e4
          obtain ⟨z, hz, rz⟩ := h4.get (List.getElem?_eq_getElem hi)
          have fl := (inD_v r1 hf.1 h4 hf.2).1
          have fd := (inD_v r1 hf.1 (Reps.cons r1 Reps.nil) (by rw [List.all_cons, hf.1]; rfl)).1
          rw [List.all_cons, Bool.and_eq_true] at fd
          have fz : ∀ (m : Nat) (hm : m < ds.length), ds[m].flat = true := fun m hm => List.all_eq_true.mp hf.2 _ (List.getElem_mem hm)
          refine ⟨_, vs', _, i, z, rfl, rfl, h3, fd.1, fl, hz, ?_, fun m z' hm hz' => ?_, P4.done0 S' .int⟩
          · rw [eqF_v rz r1 (fz i hi) hf.1]; exact k1
          · obtain ⟨d', hd', rd'⟩ := h4.getV hz'
            have hml : m < ds.length := by omega
            rw [List.getElem?_eq_getElem hml] at hd'
            cases hd'
            rw [eqF_v rd' r1 (fz m hml) hf.1]
            have := k2 m hm
            simpa using this
      · exact P3.elim
end
end DL

/-! DL26: {k: v for .. in ..}; d[k] of a dict whose keys are ints or texts. -/
namespace DL
open PySem PySem.Spec PyProof.Rows L2 TL
set_option autoImplicit false
/-! ### keys -/
def D.key : D → Option Key
  | .int i => some (.inl i)
  | .str s => some (.inr ⟨s.toArray⟩)
  | _ => none
theorem key_v {g : GG} {F : Hp} {ρ : List Addr} {d : D} {v : V} {k : Key} (r : Rep g F ρ d v) (h : d.key = some k) : v = kV k := by
  cases r <;> first | (cases h; rfl) | cases h
def findK (kvs : List (Key × D)) (k : Key) : Option D := (kvs.find? fun kv => decide (kv.1 = k)).map (·.2)
def putKD (kvs : List (Key × D)) (k : Key) (v : D) : List (Key × D) :=
  if (kvs.any fun kv => decide (kv.1 = k)) = true then kvs.map (fun kv => if kv.1 = k then (kv.1, v) else kv) else kvs ++ [(k, v)]
theorem findK_rep {g : GG} {F : Hp} {ρ : List Addr} {k : Key} {d : D} : ∀ {kvs : List (Key × D)} {kvv : List (Key × V)}, kvs.map Prod.fst = kvv.map Prod.fst → Reps g F ρ (kvs.map Prod.snd) (kvv.map Prod.snd) → findK kvs k = some d → ∃ v, valV kvv k = some v ∧ Rep g F ρ d v
  | [], _, _, _, h => by cases h
  | (a, x) :: fs, [], h, _, _ => by cases h
  | (a, x) :: fs, (b, y) :: fvs, h, r, e => by
    simp only [List.map_cons, List.cons.injEq] at h
    obtain ⟨rfl, h2⟩ := h
    cases r with
    | cons r1 r2 =>
      unfold findK at e
      unfold valV
      rw [List.find?_cons] at e ⊢
      by_cases hk : a = k
      · subst hk
        simp at e ⊢
        subst e
        exact r1
      · simp [hk] at e ⊢
        have := findK_rep (k := k) (d := d) h2 r2 (by unfold findK; simp; exact e)
        unfold valV at this
        simpa using this
theorem any_eq {k : Key} : ∀ {kvs : List (Key × D)} {kvv : List (Key × V)}, kvs.map Prod.fst = kvv.map Prod.fst → (kvs.any fun kv => decide (kv.1 = k)) = (kvv.any fun kv => decide (kv.1 = k))
  | [], [], _ => rfl
  | [], _ :: _, h => by cases h
  | _ :: _, [], h => by cases h
  | a :: fs, b :: fvs, h => by
    simp only [List.map_cons, List.cons.injEq] at h
    rw [List.any_cons, List.any_cons, any_eq h.2, h.1]
theorem repl_rep {g : GG} {F : Hp} {ρ : List Addr} {k : Key} {d : D} {v : V} (rd : Rep g F ρ d v) : ∀ {kvs : List (Key × D)} {kvv : List (Key × V)}, kvs.map Prod.fst = kvv.map Prod.fst → Reps g F ρ (kvs.map Prod.snd) (kvv.map Prod.snd) →
    (kvs.map fun kv => if kv.1 = k then (kv.1, d) else kv).map Prod.fst = (kvv.map fun kv => if kv.1 = k then (kv.1, v) else kv).map Prod.fst ∧ Reps g F ρ ((kvs.map fun kv => if kv.1 = k then (kv.1, d) else kv).map Prod.snd) ((kvv.map fun kv => if kv.1 = k then (kv.1, v) else kv).map Prod.snd)
  | [], [], _, _ => ⟨rfl, .nil⟩
  | [], _ :: _, h, _ => by cases h
  | _ :: _, [], h, _ => by cases h
  | (a, x) :: fs, (b, y) :: fvs, h, r => by
    simp only [List.map_cons, List.cons.injEq] at h
    obtain ⟨rfl, h2⟩ := h
    cases r with
    | cons r1 r2 =>
      obtain ⟨i1, i2⟩ := repl_rep rd h2 r2
      simp only [List.map_cons]
      by_cases hk : a = k
      · simp only [hk, if_true]
        exact ⟨by rw [i1], .cons rd i2⟩
      · simp only [hk, if_false]
        exact ⟨by rw [i1], .cons r1 i2⟩
theorem putK_rep {g : GG} {F : Hp} {ρ : List Addr} {k : Key} {d : D} {v : V} (rd : Rep g F ρ d v) {kvs : List (Key × D)} {kvv : List (Key × V)} (h : kvs.map Prod.fst = kvv.map Prod.fst) (r : Reps g F ρ (kvs.map Prod.snd) (kvv.map Prod.snd)) :
    (putKD kvs k d).map Prod.fst = (putK kvv k v).map Prod.fst ∧ Reps g F ρ ((putKD kvs k d).map Prod.snd) ((putK kvv k v).map Prod.snd) := by
  unfold putKD putK
  rw [any_eq h]
  split
  · exact repl_rep rd h r
  · rw [List.map_append, List.map_append, List.map_append, List.map_append, h]
    exact ⟨rfl, r.append (.cons rd .nil)⟩
/-! ### d[k] -/
def Rv.asD (δ : DEnv) (st : Sto) (r : Rv) : Option (List (Key × D)) := match r.con δ st with
  | some (.dk kvs) => some kvs
  | _ => none
theorem asD_v {g : GG} {H0 F H H1 : Hp} {ρ : List Addr} {δ : DEnv} {σ : L2.St} {st : Sto} {r : Rv} {v : V} {kvs : List (Key × D)} (S : St0 g H0 F ρ δ st σ H) (R : RepR g F ρ δ σ H1 H r v) (e : r.asD δ st = some kvs) :
    ∃ a kvv, v = .ref a ∧ H a = some (.dK kvv) ∧ kvs.map Prod.fst = kvv.map Prod.fst ∧ Reps g F ρ (kvs.map Prod.snd) (kvv.map Prod.snd) := by
  unfold Rv.asD at e
  split at e
  · rename_i q
    cases e
    obtain ⟨a, h1, kvv, h2, h3, h4⟩ := con_v S R q
    exact ⟨a, kvv, h1, h2, h3, h4⟩
  · cases e
def kDIx : K2 := fun δ x y st => (opt (x.asD δ st) fun kvs => opt (y.dat δ) fun d => opt d.key fun k => opt (findK kvs k) fun e => ret (.fz e)) st
section
variable {C : Ctx} {a b : Expr} {ga gb : DEnv → M Rv} {pos : Pos}
theorem nosl {b : Expr} (h : noSlice b = true) : NoSl b := by
  cases b <;> first | (intro _ _; rfl) | cases h
theorem de_dix (ha : DE C a ga) (hb : DE C b gb) (hn : noSlice b = true := by rfl) : DE C (.Subscript a b pos) (gBin kDIx ga gb) := fun X W ok tk => by
  have hu : X.A.units + 1 < cLine := by have := ok.unH; omega
  refine peW (pe_dget hu (ha X W ok tk) (hb X W ok tk) (nosl hn)) fun σ H Q h => ?_
  unfold gBin at h
  refine rdE_bnd (k := fun δ x => bnd (gb δ) fun y => kDIx δ x y) h fun H0 F ρ δ st Hs H v r S R P => ?_
  refine ⟨H0, F, ρ, δ, st, S, PostE_bnd P fun F' ρ' st' H' u r' A' S' R' P' => ?_⟩
  unfold kDIx at P'
  obtain ⟨kvs, e1, P1⟩ := opt_ok P'
  obtain ⟨d, e2, P2⟩ := opt_ok P1
  obtain ⟨k, e3, P3⟩ := opt_ok P2
  obtain ⟨e, e4, P4⟩ := opt_ok P3
  obtain ⟨p, kvv, rfl, h1, h2, h3⟩ := asD_v S' (R.mono A') e1
  obtain ⟨w, h4, h5⟩ := findK_rep h2 h3 e4
  obtain rfl := key_v (dat_v S' R' e2) e3
  exact ⟨p, w, rfl, by rw [← h4]; exact DGet.k h1, P4.done0 S' h5⟩
end
end DL

/-! DL27: {k: v for .. in ..}. -/
namespace DL
open PySem PySem.Spec PyProof.Rows L2 TL
set_option autoImplicit false
def compD (t : GT) (tt : DEnv → M Bool) (tk tv : DEnv → M Rv) (δ : DEnv) : List D → List (Key × D) → M (List (Key × D))
  | [], acc => ret acc
  | d :: ds, acc => match t d δ with
    | none => fail
    | some δ1 => bnd (noEx (tt δ1)) fun b => if b then bnd (noEx (gFrz tk δ1)) fun rk => bnd (noEx (gFrz tv δ1)) fun rv => match rk, rv with
        | .fz k, .fz y => opt k.key fun kk => if acc.length < LIM then compD t tt tk tv δ ds (putKD acc kk y) else fail
        | _, _ => fail
      else compD t tt tk tv δ ds acc
def gDc (gi : DEnv → M (List D)) (vs : List Nat) (t : GT) (tt : DEnv → M Bool) (tk tv : DEnv → M Rv) : DEnv → M Rv := fun δ => bnd (gi δ) fun ds => bnd (compD t tt tk tv (wipeD δ vs) ds []) fun acc => ret (.ow (.dk acc))
theorem dE1 {g : GG} {W : WX} {H0 F H : Hp} {ρ : List Addr} {δ δ1 : DEnv} {σ σ1 : L2.St} {st : Sto} {β : Type} {m : M Rv} {k2 : Rv → M β} {k3 : β → M Rv} {H1 F1 : Hp} {ρ1 : List Addr} {Q : VK} {R : V → Hp → Prop} (P : PostE g W H0 F1 ρ1 δ σ H1 (bnd (bnd (noEx m) k2) k3 st) Q)
    (hk : ∀ F' ρ' st' H' v r, After ρ F H ρ' F' H' → St0 g H0 F' ρ' δ1 st' σ1 H' → RepR g F' ρ' δ1 σ1 H H' r v → PostE g W H0 F1 ρ1 δ σ H1 (bnd (k2 r) k3 st') Q → R v H') : PostE g W0 H0 F ρ δ1 σ1 H (m st) R := by
  rw [bnd_assoc] at P
  exact noEx_E1 P hk
theorem dT1 {g : GG} {W : WX} {H0 F H : Hp} {ρ : List Addr} {δ δ1 : DEnv} {σ σ1 : L2.St} {st : Sto} {β : Type} {m : M Bool} {k2 : Bool → M β} {k3 : β → M Rv} {H1 F1 : Hp} {ρ1 : List Addr} {Q : VK} {R : Bool → Hp → Prop} (P : PostE g W H0 F1 ρ1 δ σ H1 (bnd (bnd (noEx m) k2) k3 st) Q)
    (hk : ∀ F' ρ' st' H' b, After ρ F H ρ' F' H' → St0 g H0 F' ρ' δ1 st' σ1 H' → PostE g W H0 F1 ρ1 δ σ H1 (bnd (k2 b) k3 st') Q → R b H') : PostT g W0 H0 F ρ δ1 σ1 H (m st) R := by
  rw [bnd_assoc] at P
  exact noEx_T1 P hk
structure FilC (g : GG) (H0 F0 Hb : Hp) (ρ0 : List Addr) (F1 : Hp) (ρ1 : List Addr) (δ0 : DEnv) (σ0 : L2.St) (F : Hp) (ρ : List Addr) (st : Sto) (c : Con) (L : Addr) (H : Hp) : Prop where
  A : After ρ0 F0 Hb ρ F H
  e : Same F1 F
  p : ∃ l, ρ = ρ1 ++ l
  S : St0 g H0 F ρ δ0 st σ0 H
  f : F L = none
  n : L ∉ ρ
  k : ConOk g F ρ H L c
theorem FilC.after {g : GG} {H0 F0 Hb F1 F F' H H' : Hp} {ρ0 ρ1 ρ ρ' : List Addr} {δ0 : DEnv} {σ0 : L2.St} {st st' : Sto} {c : Con} {L : Addr} (f : FilC g H0 F0 Hb ρ0 F1 ρ1 δ0 σ0 F ρ st c L H) (A : After ρ F H ρ' F' H') (fs : Same F' H') (sto : StoOk g F' ρ' st' H') : FilC g H0 F0 Hb ρ0 F1 ρ1 δ0 σ0 F' ρ' st' c L H' := by
  obtain ⟨l, hl⟩ := f.p
  obtain ⟨l', hl'⟩ := A.ex
  obtain ⟨o, ho⟩ := f.k.there
  exact ⟨f.A.trans A, f.e.trans A.ff, ⟨l ++ l', by rw [hl', hl, List.append_assoc]⟩, f.S.later A fs sto, A.unf ho f.n f.f, A.nmem f.n ho, f.k.mono f.n A⟩
theorem FilC.put {g : GG} {H0 F0 Hb F1 F H : Hp} {ρ0 ρ1 ρ : List Addr} {δ0 : DEnv} {σ0 : L2.St} {st : Sto} {c c' : Con} {L : Addr} {o : HO} (f : FilC g H0 F0 Hb ρ0 F1 ρ1 δ0 σ0 F ρ st c L H) (bL : Hb L = none) (ns : ∀ (i : Nat) (c : Con), δ0[i]? = some (some (.ow c)) → σ0[i]? ≠ some (some (.ref L))) (k : ConOk g F ρ (upd H L o) L c') :
    FilC g H0 F0 Hb ρ0 F1 ρ1 δ0 σ0 F ρ st c' L (upd H L o) :=
  ⟨f.A.fill bL, f.e, f.p, f.S.fill f.f f.n ns, f.f, f.n, k⟩
def CompC (g : GG) (W : WX) (H0 F0 Hb : Hp) (ρ0 : List Addr) (F1 : Hp) (ρ1 : List Addr) (δ0 : DEnv) (σ0 : L2.St) (m : List (Key × D) → M Rv) (L : Addr) (Q : VK) (H : Hp) : Prop :=
  ∃ F ρ st acc, FilC g H0 F0 Hb ρ0 F1 ρ1 δ0 σ0 F ρ st (.dk acc) L H ∧ PostE g W H0 F0 ρ0 δ0 σ0 Hb (m acc st) Q
section
variable {C : Ctx} {tg iter kx vx : Expr} {ifs : List Expr} {gi : DEnv → M (List D)} {t : GT} {tt : DEnv → M Bool} {tk tv : DEnv → M Rv} {pos : Pos} {T : List Nat} {scope : Scope} {own : List (Str × Nat)}
theorem dc_rd {X : Cx} {W : WX} {σ : L2.St} {H : Hp} {Q : VK} {vs : List Nat} (hT : ∀ i ∈ T, i ∈ vs) (h : rdE (xg X) W (gDc gi vs t tt tk tv) σ H Q) : tDc (rdI (xg X) W gi) (rdG (xg X) t T) (rdT (xg X) W0 tt) (rdE (xg X) W0 (gFrz tk)) (rdE (xg X) W0 (gFrz tv)) vs σ H Q := by
  obtain ⟨H0, F0, ρ0, δ, st, S0, P⟩ := h
  refine ⟨H0, F0, ρ0, δ, st, S0, ?_⟩
  unfold gDc at P
  match e : gi δ st, P with
  | none, P => unfold bnd at P; rw [e] at P; exact P
  | some (.ex x, st1), P => unfold bnd at P; rw [e] at P; exact P
  | some (.ok ds, st1), P =>
    have P : PostE (xg X) W H0 F0 ρ0 δ σ H (bnd (compD t tt tk tv (wipeD δ vs) ds []) (fun acc => ret (.ow (.dk acc))) st1) Q := by
      unfold bnd at P; rw [e] at P; exact P
    intro J ρ1 F1 H1 A1 S1 I1 L nL
    have nLρ : L ∉ ρ1 := S1.nmem nL
    have fL : F1 L = none := S1.fs.free nL
    have bL : H L = none := A1.back (fun z => nLρ (A1.mem z)) nL
    have ns : ∀ (i : Nat) (c : Con), δ[i]? = some (some (.ow c)) → σ[i]? ≠ some (some (.ref L)) := fun i c q z => by
      obtain ⟨u, u1, a, rfl, _, _, _, k⟩ := S0.slot i _ q
      rw [z] at u1; cases u1
      obtain ⟨o, ho⟩ := k.there
      rw [bL] at ho; cases ho
    refine ⟨fun i m H' => m = ds.length - i ∧ i ≤ ds.length ∧ CompC (xg X) W H0 F0 H ρ0 F1 ρ1 δ σ (fun acc => bnd (compD t tt tk tv (wipeD δ vs) (ds.drop i) acc) fun acc => ret (.ow (.dk acc))) L Q H',
      ⟨ds.length, by simp, Nat.zero_le _, F1, ρ1, st1, [], ⟨A1.fill bL, Same.refl _, ⟨[], by simp⟩, S1.fill fL nLρ ns, fL, nLρ, [], upd_same, rfl, .nil⟩, P⟩, ?_⟩
    rintro i m H2 ⟨rfl, hi, F2, ρ2, st2, acc, f2, P2⟩
    by_cases hlt : i < ds.length
    · refine .inr ⟨I1.go f2.e f2.p f2.S.fs hlt, CompC (xg X) W H0 F0 H ρ0 F1 ρ1 δ σ (fun acc => bnd (compD t tt tk tv (wipeD δ vs) (ds.drop (i + 1)) acc) fun acc => ret (.ow (.dk acc))) L Q, fun H' h' => ⟨ds.length - (i + 1), by omega, rfl, hlt, h'⟩, fun x H3 hy => ?_⟩
      have hd : ds.drop i = ds[i] :: ds.drop (i + 1) := List.drop_eq_getElem_cons hlt
      rw [hd] at P2
      obtain ⟨F3, x3, r3⟩ := I1.yld f2.e f2.p f2.S.fs (List.getElem?_eq_getElem hlt) hy
      have S3 := f2.S.ext x3
      have f3 := f2.after x3.after S3.fs S3.sto
      unfold compD at P2
      refine ⟨H0, F3, ρ2, wipeD δ vs, st2, ds[i], wipe_ok S3 vs, r3, ?_⟩
      cases q : t ds[i] (wipeD δ vs) with
      | none => rw [q] at P2; exact P2.elim
      | some δ1 =>
        rw [q] at P2
        dsimp only at P2
        intro σ1 o1 S4
        refine ⟨by rw [wipe_off hT o1]; exact wipe_off (T := vs) (fun i h => h) ⟨wipe_length σ vs, fun i h => wipe_out h⟩, H0, F3, ρ2, δ1, st2, S4, dT1 P2 fun F4 ρ4 st4 H4 b A4 S5 P4 => ?_⟩
        have f4 := f3.after A4 S5.fs S5.sto
        cases b with
        | false =>
          simp only [Bool.false_eq_true, if_false] at P4 ⊢
          exact ⟨F4, ρ4, st4, acc, f4, P4⟩
        | true =>
          simp only [if_true] at P4 ⊢
          refine ⟨H0, F4, ρ4, δ1, st4, S5, dE1 P4 fun F5 ρ5 st5 H5 y rk A5 S6 R5 P5 => ?_⟩
          have f5 := f4.after A5 S6.fs S6.sto
          refine ⟨H0, F5, ρ5, δ1, st5, S6, dE1 P5 fun F6 ρ6 st6 H6 z rv A6 S7 R6 P6 => ?_⟩
          have f6 := f5.after A6 S7.fs S7.sto
          match rk, rv, R5, R6, P6 with
          | .fz k, .fz d, R5, R6, P6 =>
            dsimp only at P6
            cases hk : k.key with
            | none => rw [hk] at P6; exact P6.elim
            | some kk =>
              rw [hk] at P6
              have P6 : PostE (xg X) W H0 F0 ρ0 δ σ H (bnd (if acc.length < LIM then compD t tt tk tv (wipeD δ vs) (ds.drop (i + 1)) (putKD acc kk d) else fail) (fun acc => ret (.ow (.dk acc))) st6) Q := P6
              by_cases hl : acc.length < LIM
              · rw [if_pos hl] at P6
                obtain ⟨kvv, h1, h2, h3⟩ := f6.k
                have hlen : kvv.length = acc.length := by have := congrArg List.length h2; simpa using this.symm
                obtain ⟨i1, i2⟩ := putK_rep (k := kk) R6 h2 h3
                refine ⟨kvv, kk, key_v R5 hk, h1, by rw [hlen, lim_eq]; exact hl, F6, ρ6, st6, putKD acc kk d, f6.put bL ns ⟨_, upd_same, i1, i2⟩, P6⟩
              · rw [if_neg hl] at P6; exact P6.elim
          | .ow _, _, _, _, P6 => exact P6.elim
          | .vw _, _, _, _, P6 => exact P6.elim
          | .fz _, .ow _, _, _, P6 => exact P6.elim
          | .fz _, .vw _, _, _, P6 => exact P6.elim
    · have : i = ds.length := by omega
      subst this
      rw [List.drop_length] at P2
      exact .inl ⟨I1.stop f2.e f2.p f2.S.fs (Nat.le_refl _), P2 (.ref L) ρ2 F2 H2 f2.A f2.S ⟨L, rfl, f2.f, f2.n, bL, f2.k⟩⟩
theorem de_dc (hi : DI C tg iter gi) (bk : blkC C.N C.sc scope own = true) (hg : DG (C.blk scope) tg t T) (ht : DTs (C.blk scope) ifs tt) (hk : DE (C.blk scope) kx tk) (he : DE (C.blk scope) vx tv) (hT : ∀ i ∈ T, i ∈ own.map (·.2) := by decide) (hs : ∀ (env : Env) x, foldedSetIterable iter env x = pure x := by intro _ _; rfl) (hh : C.hot = false := by rfl) :
    DE C (.DictComp kx vx [⟨tg, iter, ifs, 0⟩] scope pos) (gDc gi (own.map (·.2)) t tt tk tv) := fun X W ok tk2 => by
  refine peW (pe_dc (X := X) (own := own) (g := rdG (xg X) t T) (tt := rdT (xg X) W0 tt) (tk := rdE (xg X) W0 (gFrz tk)) (tv := rdE (xg X) W0 (gFrz tv)) (ok.calm hh) (by rw [ok.N]; exact ok.nd) (hi X W ok tk2) (by rw [ok.N, ok.sc]; exact blkOk_by bk)
    (fun s H L cl fp => hg _ W0 (ok.blk scope s H L cl fp) takes0) (fun s H L cl fp => ht _ W0 (ok.blk scope s H L cl fp) takes0) (fun s H L cl fp => de_frz hk _ W0 (ok.blk scope s H L cl fp) takes0) (fun s H L cl fp => de_frz he _ W0 (ok.blk scope s H L cl fp) takes0) (hs _)) fun σ H Q h => dc_rd hT h
end
end DL

/-! DL28: min, max of two ints; xs.reverse(). -/
namespace DL
open PySem PySem.Spec PyProof.Rows L2 TL
set_option autoImplicit false
section
variable {C : Ctx}
def kMin : KN := k2 fun _ x y => opt x.asI fun i => opt y.asI fun j => riv (if j < i then j else i)
def kMax : KN := k2 fun _ x y => opt x.asI fun i => opt y.asI fun j => riv (if j > i then j else i)
theorem ok_min (hh : C.hot = false := by rfl) : FnK C (.builtin "min") kMin := fnK2 fun X ok => ⟨_, call_min2 (ok.calm hh), fun W H0 F ρ δ st σ H Hs x y v u Q S R R' P => by
  obtain ⟨i, e1, P⟩ := opt_ok P
  obtain ⟨j, e2, P⟩ := opt_ok P
  exact ⟨i, j, by rw [asI_v R e1, asI_v R' e2], pI S P⟩⟩
theorem ok_max (hh : C.hot = false := by rfl) : FnK C (.builtin "max") kMax := fnK2 fun X ok => ⟨_, call_max2 (ok.calm hh), fun W H0 F ρ δ st σ H Hs x y v u Q S R R' P => by
  obtain ⟨i, e1, P⟩ := opt_ok P
  obtain ⟨j, e2, P⟩ := opt_ok P
  exact ⟨i, j, by rw [asI_v R e1, asI_v R' e2], pI S P⟩⟩
theorem bt_min : bootBuiltins "min" = some (.builtin "min") := by decide +kernel
theorem bt_max : bootBuiltins "max" = some (.builtin "max") := by decide +kernel
def fReverse : List D → List D → Option (List D) := fun ds es => match es with
  | [] => some ds.reverse
  | _ => none
theorem mu_reverse : MutL rReverse fReverse := fun g F ρ ds es ds' xs vs a H Q S h1 r r' e q => by
  unfold fReverse at e
  split at e
  · cases e
    cases r'
    exact ⟨a, xs, rfl, rfl, h1, q _ r.reverse⟩
  · cases e
variable {x : Str} {i : Nat} {p1 p2 apos pos : Pos}
theorem ds_reverse (hN : C.N[i]? = some x) (hv : Vis C.sc x) (hd : (x == ("__debug__" : Str)) = false := by decide) (hcd : (x == ("__classdict__" : Str)) = false := by decide) (hline : (apos.endLine == p1.line) = true := by rfl) :
    DS C (.Expr (.Call (.Attribute (.Name x p2) "reverse" apos) [] [] p1) pos) (sOwn i gNil fReverse) :=
  ds_own0 PySem.F.slot_list_reverse PySem.F.type_list_reverse (fun X ok => mt_reverse) mu_reverse hN hv hd hcd hline
end
end DL

/-! DL29: own classes: what the head must tell beyond He.Fa; isinstance(x, C) of an object of C. -/
namespace DL
open PySem PySem.Spec PyProof.Rows L2 TL
set_option autoImplicit false
/-- facts of a class for ==, !=, isinstance (for hookX's ex) -/
def exP (K : PySem.W.Frag) (c : Str) : Bool := decide (PySem.W.findIn K (.ref (He.ga K c)) "__ne__" = some (some (.builtin "object.__ne__"))) && (decide (PySem.W.findIn K (.ref (He.ga K c)) "__class__" = some (some (.builtin "object.__class__"))) && (decide (PySem.W.kitOne K (.ref (He.ga K c)) (.ref (He.ga K c)) = some true) &&
  (decide (PySem.W.mroIn K (He.ga K c) (.type "object") = some true) && (decide (PySem.W.specialIn K (.builtin "object.__class__") "__get__" = some (some (.builtin "getset_descriptor.__get__"))) && (decide (PySem.W.takesIn K (.builtin "object.__class__") = some true) && decide (PySem.W.subIn K (.ref (He.ga K c)) (.type "object") = some true))))))
structure ObjC (K : PySem.W.Frag) (A : Addr) : Prop where
  ne : PySem.W.findIn K (.ref A) "__ne__" = some (some (.builtin "object.__ne__"))
  cl : PySem.W.findIn K (.ref A) "__class__" = some (some (.builtin "object.__class__"))
  is : PySem.W.kitOne K (.ref A) (.ref A) = some true
  mro : PySem.W.mroIn K A (.type "object") = some true
  get : PySem.W.specialIn K (.builtin "object.__class__") "__get__" = some (some (.builtin "getset_descriptor.__get__"))
  tk : PySem.W.takesIn K (.builtin "object.__class__") = some true
  sub : PySem.W.subIn K (.ref A) (.type "object") = some true
theorem exP_ok {K : PySem.W.Frag} {c : Str} (h : exP K c = true) : ObjC K (He.ga K c) := by
  unfold exP at h
  simp only [Bool.and_eq_true, decide_eq_true_eq] at h
  obtain ⟨h1, h2, h3, h4, h5, h6, h7⟩ := h
  exact ⟨h1, h2, h3, h4, h5, h6, h7⟩
def HObj (K : PySem.W.Frag) (mg : Str → Option Value) (c : Str) : Prop := ∃ A, mg c = some (.ref A) ∧ Cls K A ∧ ObjC K A
def gIsC (c : Str) (ga : DEnv → M Rv) : DEnv → M Rv := fun δ => bnd (ga δ) fun r st => match r.obj δ st with
  | some (c', _) => if c' = c then some (.ok (.fz (.bl true)), st) else none
  | none => none
section
variable {C : Ctx} {e : Expr} {ga : DEnv → M Rv} {c : Str} {p p2 pos : Pos}
theorem de_isC (hc : HObj C.K C.mg c) (hgc : Glo C c) (hg : Glo C "isinstance") (hm : C.mg "isinstance" = none) (ha : DE C e ga) (hdb : (c == ("__debug__" : Str)) = false := by decide) (hn : noStar e = true := by rfl) :
    DE C (.Call (.Name "isinstance" p) [e, .Name c p2] [] pos) (gIsC c ga) := fun X W ok tk => by
  obtain ⟨A, h1, h2, h3⟩ := hc
  have hA : X.mg c = some (.ref A) := by rw [ok.mg]; exact h1
  have hs2 : starEach [.Name c p2] X.env = (false, eval (.Name c p2) X.env) :: starEach [] X.env := star_eq rfl
  refine peW (pe_callB call_isi (ok.glo hg) (by rw [ok.mg]; exact hm) bt_isinstance (pa_cons (ha X W ok tk) (pa_cons (pe_glob (v := .ref A) (ok.glo hgc) hA rfl hdb) pa_nil hs2) (star_eq hn)) (by decide) (by decide) (star_eq hn) (star_none (e := e) rfl)) fun σ H Q h => ?_
  refine rdE_bnd (k := fun δ r st => match r.obj δ st with
    | some (c', _) => if c' = c then some (.ok (.fz (.bl true)), st) else none
    | none => none) h fun H0 F ρ δ st Hs H v r S R P => ?_
  cases q : r.obj δ st with
  | none => rw [q] at P; exact P.elim
  | some z =>
    obtain ⟨c', fs⟩ := z
    rw [q] at P
    dsimp only at P
    split at P
    · rename_i hcc
      subst hcc
      obtain ⟨a, A', dx, fvs, rfl, g1, g2, g3, g4⟩ := obj_v S R q
      have g1' : X.mg c' = some (.ref A') := g1
      rw [hA] at g1'
      cases g1'
      have h3' : ObjC X.K A := by rw [ok.K]; exact h3
      exact ⟨_, _, _, _, true, rfl, .own A, .base (.ins g2 (by rw [ok.K]; exact h2) h3'.cl h3'.get h3'.tk h3'.mro), h3'.is, PostE.done0 P S .bl⟩
    · exact P.elim
end
end DL

/-! DL30: a == b, a != b by the class's own __eq__. -/
namespace DL
open PySem PySem.Spec PyProof.Rows L2 TL
set_option autoImplicit false
theorem slot_ne : Slot "object" "__ne__" "object.__ne__" := PySem.F.slot_object_ne
section
variable {prog : Program} {w : World} {A : Around} {E : Value → Shared → Prop} {s : Shared} {K : PySem.W.Frag} {C a b f : Addr} {ox oy : Obj} {od oe : Option Obj}
theorem ifBound_ne {args : List Value} {Q : Option Value → Shared → Prop} (X : K.In s.heap) (I : PySem.W.InstAt s.heap a ox C od) (hs : PySem.W.findIn K (.ref C) "__ne__" = some (some (.builtin "object.__ne__")))
    (h : wpAny (model prog w) A (call (.builtin "object.__ne__") (.ref a :: args)) (fun v => Q (some v)) E s) : wpAny (model prog w) A (callSpecialIfBound? (.ref a) "__ne__" args) Q E s := by
  simp only [callSpecialIfBound?, bindSpecialIfBound?]
  refine wpAny_holding (wpAny_bind (wpAny_bind (wpAny_bind (I.type.here ((PySem.W.looks_findIn X hs).here ?_)))))
  refine wpAny_bind (wpAny_askSetting (wpAny_ite ?_))
  have fin : wpAny (model prog w) A (call (.builtin "object.__ne__") ([.ref a] ++ args) >>= fun v => pure (some v)) Q E s := wpAny_bind (wpAny_mono h (fun v s' h' => wpAny_pure h') fun _ _ h' => h')
  split
  · rw [slot_ne.bind]
    exact wpAny_bind (wpAny_pure (wpAny_pure (by exact fin)))
  · rw [slot_ne.bind]
    exact wpAny_tryCatch (wpAny_bind (wpAny_pure (wpAny_pure (by exact fin))))
theorem ne_call {Q : Value → Shared → Prop} (hu : A.in1.units < cLine) (X : K.In s.heap) (I : PySem.W.InstAt s.heap a ox C od) (sub : PySem.W.subIn K (.ref C) (.type "object") = some true) (he : PySem.W.findIn K (.ref C) "__eq__" = some (some (.ref f))) (hf : PySem.W.isFn K (.ref f) = true)
    (h : wpAny (model prog w) A.in1 (call (.ref f) [.ref a, .ref b]) (fun v s' => ∃ t, v = .bool t ∧ Q (.bool (!t)) s') E s) : wpAny (model prog w) A (call (.builtin "object.__ne__") [.ref a, .ref b]) Q E s := by
  have inst : PySem.W.Looks (model prog w) s.heap (isInstance (.ref a) (.type "object")) true := I.type.andThen (PySem.W.looks_subIn X sub)
  refine wpAny_call (codeAny_call_builtin slot_ne.plain PySem.F.entry_object_ne (@PySem.W.check_slot (model prog w) _ _ _ "object.__ne__" "object" "__ne__" (.ref a) [.ref b] [] _ (by decide +kernel) (by decide +kernel) inst (PySem.F.args_object_ne_2 _ _) ?_))
  unfold Builtin.«object.__ne__»
  refine wpAny_bind (m := slotArgs "__ne__" 1 _) (wpAny_pure ?_)
  refine wpAny_bind (wpAny_cRoomFor hu ?_)
  refine wpAny_bind (PySem.W.ifBound_K X I he hf (wpAny_mono h (fun v s' z => ?_) fun _ _ e => e))
  obtain ⟨t, rfl, q⟩ := z
  refine wpAny_bind (wpAny_pure ?_)
  exact wpAny_pure q
theorem ne_own {Q : Value → Shared → Prop} (hu0 : A.units < cLine) (hu : A.in1.units < cLine) (X : K.In s.heap) (I : PySem.W.InstAt s.heap a ox C od) (J : PySem.W.InstAt s.heap b oy C oe) (nec : PySem.W.findIn K (.ref C) "__ne__" = some (some (.builtin "object.__ne__"))) (sub : PySem.W.subIn K (.ref C) (.type "object") = some true) (he : PySem.W.findIn K (.ref C) "__eq__" = some (some (.ref f))) (hf : PySem.W.isFn K (.ref f) = true)
    (h : wpAny (model prog w) A.in1 (call (.ref f) [.ref a, .ref b]) (fun v s' => ∃ t, v = .bool t ∧ Q (.bool (!t)) s') E s) : wpAny (model prog w) A (richCompare .NotEq (.ref a) (.ref b)) Q E s := by
  have one : wpAny (model prog w) A (tryCompare (.ref a) (cmpInfo .NotEq).2.1 (.ref b)) (fun r s' => ∃ v, r = some v ∧ Q v s') E s := by
    unfold tryCompare
    have g : wpAny (model prog w) A (call (.builtin "object.__ne__") [.ref a, .ref b]) (fun v s' => ∃ t, v = .bool t ∧ Q (.bool t) s') E s :=
      ne_call hu X I sub he hf (wpAny_mono h (fun v s' z => by
        obtain ⟨t, rfl, q⟩ := z
        exact ⟨t, rfl, _, rfl, q⟩) fun _ _ e => e)
    refine wpAny_bind (ifBound_ne X I nec (wpAny_mono g (fun v s' hv => ?_) fun _ _ e => e))
    obtain ⟨t, rfl, q⟩ := hv
    exact wpAny_pure ⟨_, rfl, q⟩
  unfold richCompare
  simp only [oneThing_ref]
  refine wpAny_holding (wpAny_bind (wpAny_cRoomFor hu0 ?_))
  refine wpAny_bind (I.type.here (wpAny_bind (J.type.here ?_)))
  rw [if_neg (by simp)]
  refine wpAny_bind (wpAny_pure ?_)
  simp only [Bool.false_eq_true, if_false]
  refine wpAny_bind (wpAny_mono one (fun r s' z => ?_) fun _ _ e => e)
  obtain ⟨v, rfl, hq⟩ := z
  exact wpAny_pure hq
end
section
variable {X : Cx} {k : Nat} {fa Cc : Addr} {fd : FuncData} {ps : List Str} {sp : Sp}
/-- what own comparisons ask -/
def rOwn (K : PySem.W.Frag) (Cc : Addr) (sp : Sp) (n : Bool) : R2 := fun x y H Q => ∃ a b dx dy fs gs, x = .ref a ∧ y = .ref b ∧ H a = some (.ins Cc dx fs) ∧ H b = some (.ins Cc dy gs) ∧ sp [.ref a, .ref b] H (fun v H' => ∃ t : Bool, v = .bl t ∧ Q (.bl (xor n t)) H') (fun _ _ _ => False)
theorem op_own (n : Bool) (F : FnOk X.prog X.w X.K X.mg X.base (L2.CX X.prog X.w) k fa fd ps sp) (hr : Room (k + 1) X.A) (hb : Binds X.K fd ps []) (hm : Meth X.K Cc "__eq__" fa) (ob : ObjC X.K Cc) :
    OpR X (compareOp (if n then .NotEq else .Eq)) (rOwn X.K Cc sp n) := by
  intro pins s σ H x y v u Q I rx ry h
  obtain ⟨a, b, dx, dy, fs, gs, rfl, rfl, ha, hb2, h⟩ := h
  obtain rfl : v = Value.ref a := rx
  obtain rfl : u = Value.ref b := ry
  obtain ⟨mA, J, _⟩ := ins_get I.hok ha
  obtain ⟨od, J, _⟩ := J.look
  obtain ⟨mB, J', _⟩ := ins_get I.hok hb2
  obtain ⟨oe, J', _⟩ := J'.look
  have hl : ([Value.ref a, Value.ref b] : List Value).length = ps.length := F.len _ _ _ _ h
  have bb := hb s [Value.ref a, Value.ref b] I.kIn (by rw [List.append_nil]; exact hl)
  rw [List.append_nil] at bb
  have hx : PassesAt (L2.CX X.prog X.w) X σ (WE W0 σ) := passAt takes0 σ
  have run : ∀ A, Room k A → Env0 X.prog X.w X.K X.mg X.base A X.stack s H → wpAny (model X.prog X.w) A (call (.ref fa) [.ref a, .ref b]) (fun v s' => ∃ t, v = .bool t ∧ EP X pins σ Q (.bool (xor n t)) s') X.xe s := fun A hrA e0 => by
    refine wpAny_call (codeAny_mono (F.run A X.stack s H ⟨[Value.ref a, Value.ref b], []⟩ [Value.ref a, Value.ref b] [.ref a, .ref b] _ (WE W0 σ) hrA e0 bb (.cons rfl (.cons rfl .nil)) h) fun r s' hq => ?_)
    cases r with
    | error e => exact hx pins H s e s' I hq
    | ok fl =>
      cases fl with
      | ret u =>
        obtain ⟨z, H', I', rz, t, rfl, q⟩ := I.after hq
        cases rz
        exact ⟨t, rfl, .bl (xor n t), H', I', rfl, q⟩
      | next => exact False.elim hq
      | brk => exact False.elim hq
      | cont => exact False.elim hq
  have hu : X.A.units < cLine := by have := hr.un; omega
  have hu1 : X.A.in1.units < cLine := by have := hr.in1.un; omega
  cases n with
  | false =>
    obtain ⟨m, hF⟩ := I.fr
    refine PySem.W.cmp_K (op := .Eq) (tb := .ref Cc) hu hF I.ok.mod.kin J J'.type (by simp [PySem.W.notFirst]) hm.at_ hm.fn (wpAny_mono (run X.A (hr.mono (Nat.le_succ _)) I.env0) (fun v s' z => ?_) fun _ _ e => e)
    obtain ⟨t, rfl, q⟩ := z
    rw [Bool.false_xor] at q
    exact q
  | true =>
    refine ne_own hu hu1 I.kIn J J' ob.ne ob.sub hm.at_ hm.fn (wpAny_mono (run X.A.in1 hr.in1 I.env0.in1) (fun v s' z => ?_) fun _ _ e => e)
    obtain ⟨t, rfl, q⟩ := z
    rw [Bool.true_xor] at q
    exact ⟨t, rfl, q⟩
end
section
variable {C : Ctx} {c : Str} {F : List D → M Rv} {j : Nat}
def FnEq (C : Ctx) (c : Str) (f : List D → M Rv) : Prop :=
  ∃ (fa : Addr) (fd : FuncData) (ps : List Str) (j : Nat), (∀ A, C.mg c = some (.ref A) → Meth C.K A "__eq__" fa) ∧ Binds C.K fd ps [] ∧ j + 1 ≤ C.k ∧ FnOk C.P C.w C.K C.mg C.base (L2.CX C.P C.w) j fa fd ps (spD C.gg 2 f)
theorem FnMX.eq (h : FnMX C.P C.w C.K C.mg C.base j c "__eq__" 1 F) (l : j + 1 ≤ C.k) : FnEq C c F := by
  obtain ⟨fa, fd, ps, h1, h2, h3⟩ := h
  exact ⟨fa, fd, ps, j, h1, h2, l, h3⟩
def eqK (n : Bool) (r : Rv) : M Rv := match r with
  | .fz (.bl b) => ret (.fz (.bl (xor n b)))
  | _ => fail
def kEqO (c : Str) (F : List D → M Rv) (n : Bool) : K2 := fun δ x y st => match x.selfD δ st c "__eq__", y.selfD δ st c "__eq__" with
  | some d, some e => bnd (noEx (F [d, e])) (eqK n) st
  | _, _ => none
theorem ok_eqO (n : Bool) (hc : HObj C.K C.mg c) (hf : FnEq C c F) (hh : C.hot = false := by rfl) : CmpK C (if n then .NotEq else .Eq) (kEqO c F n) := fun X ok => by
  obtain ⟨fa, fd, ps, j, h1, h2, h3, h4⟩ := hf
  obtain ⟨A, hA, hcl, hob⟩ := hc
  refine ⟨_, op_own n (mk_cast (n := 1) ok h4) ((ok.room hh).mono h3) (by rw [ok.K]; exact h2) (by rw [ok.K]; exact h1 A hA) (by rw [ok.K]; exact hob), fun W H0 F0 ρ δ st σ H Hs Ht x y v u Q S R R' P => ?_⟩
  unfold kEqO at P
  cases q : x.selfD δ st c "__eq__" with
  | none => rw [q] at P; exact P.elim
  | some d =>
    cases q' : y.selfD δ st c "__eq__" with
    | none => rw [q, q'] at P; exact P.elim
    | some e =>
      rw [q, q'] at P
      obtain ⟨rfl, a, C1, dx, fvs, rfl, g1, g2, g3⟩ := selfD_v S R q
      obtain ⟨rfl, b, C2, dy, gvs, rfl, g4, g5, g6⟩ := selfD_v S R' q'
      have e1 : C1 = A := by
        have g : X.mg c = some (.ref C1) := g1
        rw [ok.mg, hA] at g
        cases g; rfl
      have e2 : C2 = A := by
        have g : X.mg c = some (.ref C2) := g4
        rw [ok.mg, hA] at g
        cases g; rfl
      subst e1
      subst e2
      refine ⟨a, b, dx, dy, fvs, gvs, rfl, rfl, g2, g5, F0, ρ, [d, e], st, ⟨S.fs, S.sto⟩, .cons R (.cons R' .nil), rfl, ?_⟩
      unfold bnd noEx at P
      dsimp only at P
      cases q2 : F [d, e] st with
      | none => simp only [q2] at P; exact P.elim
      | some o =>
        obtain ⟨o, st'⟩ := o
        simp only [q2] at P
        cases o with
        | ex y => exact P.elim
        | ok r =>
          intro v ρ' F' H' A' S' R'
          dsimp only at P
          unfold eqK at P
          split at P
          · obtain rfl := Rep.bl_v R'
            exact ⟨_, rfl, P _ ρ' F' H' A' (S.after A' S') .bl⟩
          · exact P.elim
end
end DL

/-! DL31: exceptions of own classes: their facts, attributes, making, raise. -/
namespace DL
open PySem PySem.Spec PyProof.Rows L2 TL
set_option autoImplicit false

/-! ### facts -/
def oexCls (K : PySem.W.Frag) (C : Addr) : Bool := match K.lookup C with
  | some ⟨.type "type", _, .cls cd, sl⟩ => (match cd.mro, sl.toList with
    | .ref B :: bm, [_, _, _, _, some (.builtin n), _] => B == C && (n == "ValueError.__new__" && (!cd.hasDel && (cd.hasDict && PySem.HandSPX.refsVE bm)))
    | _, _ => false)
  | _ => false
theorem oexCls_ok {K : PySem.W.Frag} {C : Addr} (q : oexCls K C = true) :
    ∃ nm qn N bs bm sn sub ab col dd k0 k1 k2 k3 k5, K.lookup C = some (excClassObj nm qn C N bs bm true sn sub ab col dd k0 k1 k2 k3 k5 "ValueError.__new__") ∧ PySem.HandSPX.refsVE bm = true := by
  unfold oexCls at q
  split at q
  · rename_i dd cd sl ho
    split at q
    · rename_i B bm k0 k1 k2 k3 n k5 hm hs
      simp only [Bool.and_eq_true, beq_iff_eq, Bool.not_eq_true'] at q
      obtain ⟨eB, en, hdel, hdi, ht⟩ := q
      subst eB
      subst en
      obtain ⟨nm, bs, mro, ns, qn, hd, sn, sub, ab, col, del⟩ := cd
      dsimp only at hm hdel hdi
      subst hm
      subst hdel
      subst hdi
      have hsl : sl = #[k0, k1, k2, k3, some (.builtin "ValueError.__new__"), k5] := by
        obtain ⟨l⟩ := sl
        simp only at hs
        rw [hs]
      subst hsl
      exact ⟨nm, qn, ns, bs, bm, sn, sub, ab, col, dd, k0, k1, k2, k3, k5, ho, ht⟩
    · cases q
  · cases q
/-- a class with its kin (own classes, itself among them) -/
abbrev Kin := Str × List Str
def xcB (K : PySem.W.Frag) (fs hs : List Str) (c : Kin) : Bool :=
  decide (PySem.W.nsIn K mainGlobals c.1 = some (some (.ref (He.ga K c.1)))) && (L2.xfB K (He.ga K c.1) && (fs.all (fun f => decide (PySem.W.findIn K (.ref (He.ga K c.1)) f = some none)) &&
    hs.all (fun h => decide (PySem.W.nsIn K mainGlobals h = some (some (.ref (He.ga K h)))) && decide (PySem.W.exmOne K (.ref (He.ga K c.1)) (.ref (He.ga K h)) = some (c.2.contains h)))))
/-- what a class of exceptions is known by: fs, attributes that it lacks itself; hs, the classes that clauses name -/
structure XC (K : PySem.W.Frag) (mg : Str → Option Value) (fs hs : List Str) (c : Kin) (C : Addr) : Prop where
  gl : mg c.1 = some (.ref C)
  xf : XfC K C
  no : ∀ f ∈ fs, PySem.W.findIn K (.ref C) f = some none
  ex : ∀ h ∈ hs, ∃ B, mg h = some (.ref B) ∧ PySem.W.exmOne K (.ref C) (.ref B) = some (c.2.contains h)
def HXs (K : PySem.W.Frag) (mg : Str → Option Value) (fs hs : List Str) (xs : List Kin) : Prop := ∀ c ∈ xs, ∃ C, XC K mg fs hs c C
theorem hxs_ok {K : PySem.W.Frag} {h : Heap} {mg : Str → Option Value} {fs hs : List Str} {xs : List Kin} (X : K.In h) (G : h.Ns mainGlobals mg) (q : xs.all (xcB K fs hs) = true) : HXs K mg fs hs xs := fun c hc => by
  have q1 := List.all_eq_true.mp q c hc
  unfold xcB at q1
  simp only [Bool.and_eq_true, decide_eq_true_eq, List.all_eq_true] at q1
  obtain ⟨h1, h2, h3, h4⟩ := q1
  exact ⟨He.ga K c.1, PySem.W.mg_of X G h1, xfB_ok h2, h3, fun k hk => ⟨_, PySem.W.mg_of X G (h4 k hk).1, (h4 k hk).2⟩⟩
/-- a class whose instances are made by its own __init__ -/
def xmB (K : PySem.W.Frag) (fs : List Str) (c : Str) : Bool :=
  oexCls K (He.ga K c) && (decide (PySem.W.findIn K (.ref (He.ga K c)) "__setattr__" = some (some (.builtin "object.__setattr__"))) && (decide (PySem.W.subIn K (.ref (He.ga K c)) (.type "BaseException") = some true) && (decide (PySem.W.typeIn K (.ref (He.ga K c)) = some (.type "type")) && (PySem.W.keepIn K (.ref (He.ga K c)) &&
    (decide (PySem.W.findIn K (.ref (He.ga K c)) "__init__" = some (some (.ref (He.ma K (He.ga K c) "__init__")))) && (decide (PySem.W.typeIn K (.ref (He.ma K (He.ga K c) "__init__")) = some (.type "function")) && (fs.all (fun f => decide (PySem.W.findIn K (.ref (He.ga K c)) f = some none)) &&
      decide (PySem.W.nsIn K mainGlobals c = some (some (.ref (He.ga K c)))))))))))
structure XM (K : PySem.W.Frag) (mg : Str → Option Value) (fs : List Str) (c : Str) (C fI : Addr) : Prop where
  gl : mg c = some (.ref C)
  ox : OexC K C
  ini : PySem.W.findIn K (.ref C) "__init__" = some (some (.ref fI))
  ty : PySem.W.typeIn K (.ref fI) = some (.type "function")
  no : ∀ f ∈ fs, PySem.W.findIn K (.ref C) f = some none
theorem xmB_ok {K : PySem.W.Frag} {h : Heap} {mg : Str → Option Value} {fs : List Str} {c : Str} (X : K.In h) (G : h.Ns mainGlobals mg) (q : xmB K fs c = true) : XM K mg fs c (He.ga K c) (He.ma K (He.ga K c) "__init__") := by
  unfold xmB at q
  simp only [Bool.and_eq_true, decide_eq_true_eq, List.all_eq_true] at q
  obtain ⟨h1, h2, h3, h4, h5, h6, h7, h8, h9⟩ := q
  exact ⟨PySem.W.mg_of X G h9, ⟨oexCls_ok h1, h2, h3, h4, h5⟩, h6, h7, h8⟩
/-- a class c, its __init__ the def q of the text st -/
def HXMk (K : PySem.W.Frag) (mg : Str → Option Value) (fs : List Str) (c q : Str) (st : Stmt) : Prop := ∃ C fI fd, XM K mg fs c C fI ∧ FnQ K "__init__" q st fI fd

/-! ### attributes -/
def Rv.exc : Rv → Option (Str × List (Str × D))
  | .fz (.exc c fs) => some (c, fs)
  | _ => none
theorem exc_eq {r : Rv} {c : Str} {fs : List (Str × D)} (h : r.exc = some (c, fs)) : r = .fz (.exc c fs) := by
  cases r with
  | fz d => cases d <;> first | (cases h; rfl) | cases h
  | ow c => cases h
  | vw i => cases h
def gXat (xs : List Kin) (f : Str) (ga : DEnv → M Rv) : DEnv → M Rv := fun δ => bnd (ga δ) fun r => opt r.exc fun z => if xs.any (fun c => c.1 == z.1) then opt (z.2.lookup f) fun d => ret (.fz d) else fail
theorem lookup_reps {g : GG} {F : Hp} {ρ : List Addr} {f : Str} : ∀ {fs : List (Str × D)} {fvs : List (Str × V)} {d : D}, fs.map Prod.fst = fvs.map Prod.fst → Reps g F ρ (fs.map Prod.snd) (fvs.map Prod.snd) → fs.lookup f = some d → ∃ v, fvs.lookup f = some v ∧ Rep g F ρ d v
  | [], _, _, _, _, h => by cases h
  | (k, x) :: fs, [], _, e, _, _ => by cases e
  | (k, x) :: fs, (k', y) :: fvs, d, e, r, h => by
    simp only [List.map_cons, List.cons.injEq] at e
    obtain ⟨e1, e2⟩ := e
    subst e1
    simp only [List.map_cons] at r
    cases r with
    | cons r1 r2 =>
      simp only [List.lookup_cons] at h ⊢
      cases q : f == k with
      | true =>
        simp only [q] at h ⊢
        cases h
        exact ⟨y, rfl, r1⟩
      | false =>
        simp only [q] at h ⊢
        exact lookup_reps e2 r2 h
section
variable {C : Ctx} {e : Expr} {ga : DEnv → M Rv} {f : Str} {pos : Pos} {fs hs : List Str} {xs : List Kin}
/-- e.f of an exception that H tells -/
theorem pe_xz {X : Cx} {te : TE} {n : Str} (he : PE X e te) (hb : attributeBase e n X.env (eval e X.env) = eval e X.env := by rfl) :
    PE X (.Attribute e n pos) (fun σ H Q => te σ H fun x H1 => ∃ (a B dd : Addr) (fvs : List (Str × V)) (v : V), x = .ref a ∧ XfC X.K B ∧ PySem.W.findIn X.K (.ref B) n = some none ∧ H1 a = some (ExZ (.ref B) dd a) ∧ H1 dd = some (.xd fvs) ∧ fvs.lookup n = some v ∧ Q v H1) := by
  refine ⟨fun pins s σ H Q I h => ?_⟩
  refine attr_of hb (thn (he.run pins s σ H _ I h) fun u s1 hh => ?_)
  obtain ⟨x, H1, I1, rx, a, B, dd, fvs, v, ex, T, hno, ea, ed, l, q⟩ := hh
  subst ex
  obtain rfl : u = Value.ref a := rx
  obtain ⟨⟨oe, vs, ho, hz, hd⟩, _, _⟩ := I1.hok a _ ea
  obtain ⟨mA, hns, hr⟩ : ObjOk X.prog X.w H1 s1.heap dd (.xd fvs) := I1.hok dd _ ed
  obtain ⟨od, hod, hl⟩ := lookIn_ns hns
  obtain ⟨w, hw, rw'⟩ := RelO.some_of (v := v) (o := mA n) (by rw [← l]; exact hr n)
  have J : PySem.W.InstAt s1.heap a oe B (some od) := ⟨ho, hz.1, (by unfold PySem.W.notCls; rw [hd] <;> rfl), (by rw [hz.2]; exact hod)⟩
  exact PySem.HandSPX.exc_get I1.kIn J T.ga T.gg T.exC (PySem.W.findObj_own T.hdC hno rfl (by rw [hl, hw])) (handed_of rw') ⟨v, H1, I1.tok _, rw', q⟩
theorem de_xat (hx : HXs C.K C.mg fs hs xs) (ha : DE C e ga) (hf : fs.contains f = true := by decide +kernel) (hb : ∀ X : Cx, attributeBase e f X.env (eval e X.env) = eval e X.env := by intro _; rfl) :
    DE C (.Attribute e f pos) (gXat xs f ga) := fun X W ok tk => by
  refine peW (pe_xz (n := f) (ha X W ok tk) (hb X)) fun σ H Q h => ?_
  refine rdE_bnd (k := fun δ r => opt r.exc fun z => if xs.any (fun c => c.1 == z.1) then opt (z.2.lookup f) fun d => ret (.fz d) else fail) h fun H0 F ρ δ st Hs H v r S R P => ?_
  obtain ⟨z, e1, P1⟩ := opt_ok P
  obtain ⟨c, kvs⟩ := z
  have er := exc_eq e1
  subst er
  dsimp only at P1
  split at P1
  · rename_i hc
    obtain ⟨d, e2, P2⟩ := opt_ok P1
    obtain ⟨k, hk, ek⟩ := List.any_eq_true.mp hc
    have ek := eq_of_beq ek
    obtain ⟨A, T⟩ := hx k hk
    cases R with
    | @exc _ B a dx _ fvs g1 g2 g3 g4 g5 =>
      have g1' : C.mg c = some (.ref B) := by rw [← ok.mg]; exact g1
      have e3 := T.gl
      rw [ek, g1'] at e3
      cases e3
      obtain ⟨w, l, rw'⟩ := lookup_reps g4 g5 e2
      exact ⟨a, _, dx, fvs, w, rfl, by rw [ok.K]; exact T.xf, by rw [ok.K]; exact T.no f (by simpa using hf), S.fs _ _ g2, S.fs _ _ g3, l, PostE.done0 P2 S rw'⟩
  · exact P1.elim
end
end DL

/-! DL32: exceptions made: by an __init__ that stores constants and parameters; raised; as values. -/
namespace DL
open PySem PySem.Spec PyProof.Rows L2 TL
set_option autoImplicit false

/-- what an __init__ stores: a text, its i-th parameter -/
inductive XS where
  | str (s : List Nat) | par (i : Nat)
abbrev XIn := List (Str × XS)
def XS.v (vs : List V) : XS → V
  | .str s => .str ⟨s.toArray⟩
  | .par i => vs.getD i .non
def XS.d (ds : List D) : XS → D
  | .str s => .str s
  | .par i => ds.getD i .non
def xputV (vs : List V) : XIn → List (Str × V) → List (Str × V)
  | [], fs => fs
  | (f, x) :: l, fs => xputV vs l ((f, x.v vs) :: fs)
def xputD (ds : List D) : XIn → List (Str × D) → List (Str × D)
  | [], fs => fs
  | (f, x) :: l, fs => xputD ds l ((f, x.d ds) :: fs)
def XIn.ok (n : Nat) (l : XIn) : Bool := l.all fun p => match p.2 with
  | .str _ => true
  | .par i => decide (i < n)
theorem xok_tl {n : Nat} {p : Str × XS} {l : XIn} (h : XIn.ok n (p :: l) = true) : XIn.ok n l = true := by
  unfold XIn.ok at h ⊢
  rw [List.all_cons, Bool.and_eq_true] at h
  exact h.2
theorem xok_par {n i : Nat} {f : Str} {l : XIn} (h : XIn.ok n ((f, .par i) :: l) = true) : i < n := by
  unfold XIn.ok at h
  rw [List.all_cons, Bool.and_eq_true] at h
  exact of_decide_eq_true h.1
theorem XS.rep {g : GG} {F : Hp} {ρ : List Addr} {ds : List D} {vs : List V} (h : Reps g F ρ ds vs) (x : XS) : Rep g F ρ (x.d ds) (x.v vs) := by
  cases x with
  | str s => exact .str
  | par i =>
    show Rep g F ρ (ds.getD i .non) (vs.getD i .non)
    rw [List.getD_eq_getElem?_getD, List.getD_eq_getElem?_getD]
    cases e : ds[i]? with
    | none => rw [List.getElem?_eq_none (by rw [← h.length]; exact List.getElem?_eq_none_iff.mp e)]; exact .non
    | some d =>
      obtain ⟨v, e1, r⟩ := h.get e
      rw [e1]
      exact r
theorem put_reps {g : GG} {F : Hp} {ρ : List Addr} {ds : List D} {vs : List V} (h : Reps g F ρ ds vs) : ∀ (l : XIn) (fs : List (Str × D)) (fvs : List (Str × V)), fs.map Prod.fst = fvs.map Prod.fst → Reps g F ρ (fs.map Prod.snd) (fvs.map Prod.snd) →
    (xputD ds l fs).map Prod.fst = (xputV vs l fvs).map Prod.fst ∧ Reps g F ρ ((xputD ds l fs).map Prod.snd) ((xputV vs l fvs).map Prod.snd)
  | [], fs, fvs, e, r => ⟨e, r⟩
  | (f, x) :: l, fs, fvs, e, r => put_reps h l ((f, x.d ds) :: fs) ((f, x.v vs) :: fvs) (by simp [e]) (.cons (x.rep h) r)
inductive IsInit (N : List Str) (sc : Scope) : List Stmt → XIn → Prop
  | nil : IsInit N sc [] []
  | str {f z : Str} {q1 q2 q3 q4 : Pos} {j : Nat} {r : List Stmt} {l : XIn} {s : List Nat} : tl z = s → IsInit N sc r l → IsInit N sc (.Assign [.Attribute (.Name "self" q1) f q2] (.Constant (.str z) j q3) q4 :: r) ((f, .str s) :: l)
  | par {f y : Str} {q1 q2 q3 q4 : Pos} {r : List Stmt} {l : XIn} {i : Nat} : N[i + 1]? = some y → Vis sc y → (y == ("__debug__" : Str)) = false → (y == ("__classdict__" : Str)) = false → IsInit N sc r l → IsInit N sc (.Assign [.Attribute (.Name "self" q1) f q2] (.Name y q3) q4 :: r) ((f, .par i) :: l)
/-- the slots at an __init__'s start -/
def ArgsAt (a : Addr) (vs : List V) (σ : L2.St) : Prop := σ[0]? = some (some (.ref a)) ∧ ∀ i v, vs[i]? = some v → σ[i + 1]? = some (some v)
section
variable {X : Cx} {a B dx : Addr} {vs : List V} {body : List Stmt} {l : XIn}
theorem pss_ex {ss : List Stmt} {α : Type} {t : α → TS} (h : ∀ x, PSs X ss (t x)) : PSs X ss (fun D σ H => ∃ x, t x D σ H) := ⟨fun pins s σ H D I ⟨x, q⟩ => (h x).run pins s σ H D I q⟩
/-- further stores -/
theorem init_old (T : OexC X.K B) (h0 : X.N[0]? = some ("self" : Str)) (v0 : Vis X.env.scope "self") : ∀ {body : List Stmt} {l : XIn}, IsInit X.N X.env.scope body l → (∀ p ∈ l, PySem.W.findIn X.K (.ref B) p.1 = some none) → XIn.ok vs.length l = true →
    PSs X body (fun D σ H => ∃ fs, ArgsAt a vs σ ∧ a ≠ dx ∧ H a = some (exo a B (some dx)) ∧ H dx = some (exd dx fs) ∧ fs.length + l.length ≤ 900 ∧ ∀ H', (∀ b, b ≠ dx → H' b = H b) → H' dx = some (exd dx (xputV vs l fs)) → D.nx σ H')
  | _, _, .nil, _, _ => pssW pss_nil fun D σ H ⟨fs, _, _, _, h2, _, h⟩ => h H (fun _ _ => rfl) h2
  | _, _, @IsInit.str _ _ f z q1 q2 q3 q4 j r l s e t, hn, hk => by
    have hk2 : XIn.ok vs.length l = true := xok_tl hk
    refine pssW (pss_cons (ps_ost (pe_var (i := 0) h0 v0 (by decide) (by decide)) pe_str) (init_old T h0 v0 t (fun p hp => hn p (List.mem_cons_of_mem _ hp)) hk2)) fun D σ H ⟨fs, ha, hne, h1, h2, h3, h⟩ => ?_
    refine ⟨_, ha.1, a, B, rfl, T, hn _ List.mem_cons_self, .inr ⟨dx, fs, h1, h2, by simp at h3; omega, ?_⟩⟩
    refine ⟨(f, .str z) :: fs, ha, hne, by rw [upd_ne hne]; exact h1, upd_same, by simp at h3 ⊢; omega, fun H' k1 k2 => h H' (fun b hb => by rw [k1 b hb, upd_ne hb]) ?_⟩
    rw [k2]
    subst e
    show _ = some (exd dx (xputV vs l ((f, .str ⟨(tl z).toArray⟩) :: fs)))
    rw [mk_tl]
  | _, _, @IsInit.par _ _ f y q1 q2 q3 q4 r l i e v d1 d2 t, hn, hk => by
    have hk2 : XIn.ok vs.length l = true := xok_tl hk
    have hi : i < vs.length := xok_par hk
    refine pssW (pss_cons (ps_ost (pe_var (i := 0) h0 v0 (by decide) (by decide)) (pe_var (i := i + 1) e v d1 d2)) (init_old T h0 v0 t (fun p hp => hn p (List.mem_cons_of_mem _ hp)) hk2)) fun D σ H ⟨fs, ha, hne, h1, h2, h3, h⟩ => ?_
    refine ⟨vs[i], ha.2 i _ (List.getElem?_eq_getElem hi), _, ha.1, a, B, rfl, T, hn _ List.mem_cons_self, .inr ⟨dx, fs, h1, h2, by simp at h3; omega, ?_⟩⟩
    refine ⟨(f, vs[i]) :: fs, ha, hne, by rw [upd_ne hne]; exact h1, upd_same, by simp at h3 ⊢; omega, fun H' k1 k2 => h H' (fun b hb => by rw [k1 b hb, upd_ne hb]) ?_⟩
    rw [k2]
    show _ = some (exd dx (xputV vs l ((f, vs.getD i .non) :: fs)))
    rw [List.getD_eq_getElem?_getD, List.getElem?_eq_getElem hi]
    rfl
/-- all stores -/
theorem init_all (T : OexC X.K B) (h0 : X.N[0]? = some ("self" : Str)) (v0 : Vis X.env.scope "self") {body : List Stmt} {l : XIn} (hl : l ≠ []) (h : IsInit X.N X.env.scope body l) (hn : ∀ p ∈ l, PySem.W.findIn X.K (.ref B) p.1 = some none) (hk : XIn.ok vs.length l = true) (hz : l.length ≤ 900) :
    PSs X body (fun D σ H => ArgsAt a vs σ ∧ H a = some (exo a B none) ∧ ∀ dx H', H dx = none → dx ≠ a → (∀ b, b ≠ a → b ≠ dx → H' b = H b) → H' a = some (exo a B (some dx)) → H' dx = some (exd dx (xputV vs l [])) → D.nx σ H') := by
  have fin : ∀ {f : Str} {y : V} {l' : XIn} {D : Ends} {σ : L2.St} {H : Hp}, (∀ dx H', H dx = none → dx ≠ a → (∀ b, b ≠ a → b ≠ dx → H' b = H b) → H' a = some (exo a B (some dx)) → H' dx = some (exd dx (xputV vs l' [(f, y)])) → D.nx σ H') → H a = some (exo a B none) → ArgsAt a vs σ → l'.length + 1 ≤ 900 →
      ∀ dx, H dx = none → dx ≠ a → ∃ fs, ArgsAt a vs σ ∧ a ≠ dx ∧ (upd (upd H dx (exd dx [(f, y)])) a (exo a B (some dx))) a = some (exo a B (some dx)) ∧ (upd (upd H dx (exd dx [(f, y)])) a (exo a B (some dx))) dx = some (exd dx fs) ∧ fs.length + l'.length ≤ 900 ∧
        ∀ H', (∀ b, b ≠ dx → H' b = (upd (upd H dx (exd dx [(f, y)])) a (exo a B (some dx))) b) → H' dx = some (exd dx (xputV vs l' fs)) → D.nx σ H' := fun {f y l' D σ H} h h1 ha hz dx hd hne => by
    refine ⟨[(f, y)], ha, Ne.symm hne, upd_same, by rw [upd_ne hne, upd_same], by simp; omega, fun H' k1 k2 => h dx H' hd hne (fun b b1 b2 => ?_) ?_ k2⟩
    · rw [k1 b b2, upd_ne b1, upd_ne b2]
    · rw [k1 a (Ne.symm hne), upd_same]
  cases h with
  | nil => exact absurd rfl hl
  | @str f z q1 q2 q3 q4 j r l s e t =>
    have hk2 : XIn.ok vs.length l = true := xok_tl hk
    have old : ∀ dx, PSs X r _ := fun dx => init_old (a := a) (dx := dx) (vs := vs) T h0 v0 t (fun p hp => hn p (List.mem_cons_of_mem _ hp)) hk2
    refine pssW (pss_cons (ps_ost (pe_var (i := 0) h0 v0 (by decide) (by decide)) pe_str) (pss_ex old)) fun D σ H ⟨ha, h1, h⟩ => ?_
    refine ⟨_, ha.1, a, B, rfl, T, hn _ List.mem_cons_self, .inl ⟨h1, fun dx hd hne => ⟨dx, ?_⟩⟩⟩
    refine fin (f := f) (y := .str z) (l' := l) ?_ h1 ha (by simpa using hz) dx hd hne
    intro dx H' a1 a2 a3 a4 a5
    refine h dx H' a1 a2 a3 a4 ?_
    subst e
    rw [a5]
    show _ = some (exd dx (xputV vs l [(f, .str ⟨(tl z).toArray⟩)]))
    rw [mk_tl]
  | @par f y q1 q2 q3 q4 r l i e v d1 d2 t =>
    have hk2 : XIn.ok vs.length l = true := xok_tl hk
    have hi : i < vs.length := xok_par hk
    have old : ∀ dx, PSs X r _ := fun dx => init_old (a := a) (dx := dx) (vs := vs) T h0 v0 t (fun p hp => hn p (List.mem_cons_of_mem _ hp)) hk2
    refine pssW (pss_cons (ps_ost (pe_var (i := 0) h0 v0 (by decide) (by decide)) (pe_var (i := i + 1) e v d1 d2)) (pss_ex old)) fun D σ H ⟨ha, h1, h⟩ => ?_
    refine ⟨vs[i], ha.2 i _ (List.getElem?_eq_getElem hi), _, ha.1, a, B, rfl, T, hn _ List.mem_cons_self, .inl ⟨h1, fun dx hd hne => ⟨dx, ?_⟩⟩⟩
    refine fin (f := f) (y := vs[i]) (l' := l) ?_ h1 ha (by simpa using hz) dx hd hne
    intro dx H' a1 a2 a3 a4 a5
    refine h dx H' a1 a2 a3 a4 ?_
    rw [a5]
    show _ = some (exd dx (xputV vs l [(f, vs.getD i .non)]))
    rw [List.getD_eq_getElem?_getD, List.getElem?_eq_getElem hi]
    rfl
end

/-! ### the promise of an __init__ -/
def spI (B : Addr) (n : Nat) (l : XIn) : Sp := fun us H Q _ => ∃ a vs, us = .ref a :: vs ∧ vs.length = n ∧ H a = some (exo a B none) ∧ ∀ dx H', H dx = none → dx ≠ a → (∀ b, b ≠ a → b ≠ dx → H' b = H b) → H' a = some (exo a B (some dx)) → H' dx = some (exd dx (xputV vs l [])) → Q .non H'
theorem args_start {a : Addr} {vs : List V} {N : List Str} : ArgsAt a vs (L2.start N (.ref a :: vs)) := by
  refine ⟨rfl, fun i v h => ?_⟩
  have hi := (List.getElem?_eq_some_iff.mp h).1
  unfold L2.start
  rw [List.map_cons, List.cons_append, List.getElem?_cons_succ, List.getElem?_append_left (by simpa using hi), List.getElem?_map, h]
  rfl
def FnIX (P : Program) (w : World) (K : PySem.W.Frag) (mg : Str → Option Value) (base : Heap) (k : Nat) (c : Str) (n : Nat) (l : XIn) : Prop :=
  ∃ (B fI : Addr) (fd : FuncData) (ps : List Str), mg c = some (.ref B) ∧ OexC K B ∧ PySem.W.findIn K (.ref B) "__init__" = some (some (.ref fI)) ∧ PySem.W.typeIn K (.ref fI) = some (.type "function") ∧ Binds K fd ps [] ∧ FnOk P w K mg base (L2.CX P w) k fI fd ps (spI B n l)
theorem fnix {P : Program} {w : World} {K : PySem.W.Frag} {mg : Str → Option Value} {base : Heap} {k n : Nat} {c q : Str} {fs N ps : List Str} {st : Stmt} {l : XIn} (h : HXMk K mg fs c q st) (Sc : FnScope N ps (defScope st)) (hn : ps.length = n + 1) (h0 : N[0]? = some ("self" : Str)) (v0 : Vis (defScope st) "self")
    (hi : IsInit N (defScope st) (defBody st) l) (hk : (XIn.ok n l && (l.all (fun p => fs.contains p.1) && (!l.isEmpty && decide (l.length ≤ 900)))) = true)
    (hbd : ∀ (kV doc pm : Value) (an : Option Addr) (cdv ct : Value) (us : List Value), us.length = ps.length → bindArgs (PySem.W.fnOf "__init__" q (defArgs st) (defBody st) (defScope st) .none kV doc pm an cdv ct) ⟨us, []⟩ = pure (ps.zip us)) :
    FnIX P w K mg base (k + 1) c n l := by
  obtain ⟨B, fI, fd, h1, h2⟩ := h
  simp only [Bool.and_eq_true, decide_eq_true_eq, Bool.not_eq_true'] at hk
  obtain ⟨k1, k2, k3, k4⟩ := hk
  refine ⟨B, fI, fd, ps, h1.gl, h1.ox, h1.ini, h1.ty, h2.bindsN hbd, ?_⟩
  refine FunD.ok h2 Sc (fun us H Q E ⟨a, vs, e, hl, _⟩ => by rw [e, hn, List.length_cons, hl]) fun cdv A outer s H us Q E hr ⟨a, vs, e, hl, ha, hq⟩ => ?_
  subst e
  refine ⟨_, init_all (a := a) (vs := vs) (l := l) h1.ox h0 v0 (fun z => by rw [z] at k3; cases k3) hi (fun p hp => h1.no _ (by simpa using List.all_eq_true.mp k2 p hp)) (by rw [hl]; exact k1) k4, args_start, ha, hq⟩
theorem FnIX.up {P : Program} {w : World} {K : PySem.W.Frag} {mg : Str → Option Value} {base : Heap} {k j n : Nat} {c : Str} {l : XIn} (h : FnIX P w K mg base j c n l) (le : j ≤ k) : FnIX P w K mg base k c n l := by
  obtain ⟨B, fI, fd, ps, h1, h2, h3, h4, h5, h6⟩ := h
  exact ⟨B, fI, fd, ps, h1, h2, h3, h4, h5, h6.mono le⟩

/-! ### C(args) -/
section
variable {X : Cx} {B : Addr} {n : Nat} {l : XIn} {c : Str} {ta : TA} {es : List Expr} {p pos : Pos}
def tMkX (B : Addr) (n : Nat) (l : XIn) (ta : TA) : L2.St → Hp → XK → Prop := fun σ H Q => ta σ H fun vs H1 => vs.length = n ∧ vs.length ≤ 1000 ∧ ∀ d, H1 d = none → Q (.ref B) (some d) (upd H1 d (.xd (xputV vs l [])))
theorem made_x {pins : List (Addr × Obj)} {σ : L2.St} {H1 : Hp} {Q : XK} {hp : Heap} {g : Array GenState} {dr : Drawn} {tk : Nat} {os : OsState} {us : List Value} {vs : List V} {k : Nat} {fI : Addr} {fd : FuncData} {ps : List Str}
    (T : OexC X.K B) (iC : PySem.W.findIn X.K (.ref B) "__init__" = some (some (.ref fI))) (tI : PySem.W.typeIn X.K (.ref fI) = some (.type "function")) (F1 : FnOk X.prog X.w X.K X.mg X.base (L2.CX X.prog X.w) k fI fd ps (spI B n l)) (hr : Room (k + 1) X.A) (hb : Binds X.K fd ps [])
    (I1 : Inv X pins σ H1 ⟨hp, g, dr, tk, os⟩) (r1 : Vals vs us) (hn : vs.length = n) (hz : vs.length ≤ 1000) (q1 : ∀ d, H1 d = none → Q (.ref B) (some d) (upd H1 d (.xd (xputV vs l [])))) :
    wpAny (model X.prog X.w) X.A (call (.ref B) us) (MkP X pins σ Q) X.xe ⟨hp, g, dr, tk, os⟩ := by
  obtain ⟨nm, qn, nN, bs, bm, sn, sub, ab, col, dd, k0, k1, k2, k3, k5, hC, hbm⟩ := T.cls
  have s1 : hp.objs.size ≤ hp.objs.size + 1 := Nat.le_succ _
  have nn : H1 (hp.objs.size + 1) = none := I1.hok.fresh s1
  have keep2 : ∀ b o, hp.get? b = some o → ((hp.push (PySem.W.kdv_tup us)).push (PySem.HandSPX.excO B hp.objs.size)).get? b = some o := fun b o e =>
    Heap.get?_push_of_some _ (Heap.get?_push_of_some _ e)
  have got : ((hp.push (PySem.W.kdv_tup us)).push (PySem.HandSPX.excO B hp.objs.size)).get? (hp.objs.size + 1) = some (PySem.HandSPX.excO B hp.objs.size) := by
    heap_get
  have I2 : Inv X pins σ (upd H1 (hp.objs.size + 1) (exo (hp.objs.size + 1) B none)) ⟨(hp.push (PySem.W.kdv_tup us)).push (PySem.HandSPX.excO B hp.objs.size), g, dr, tk, os⟩ :=
    I1.laid (t' := tk) (a := hp.objs.size + 1) (o := exo (hp.objs.size + 1) B none) keep2 s1 (exo_ok got)
  have ul : us.length ≤ sizeLine := by
    rw [← Paired.length r1, sizeLine_eq]
    omega
  have rr : Vals (V.ref (hp.objs.size + 1) :: vs) (Value.ref (hp.objs.size + 1) :: us) := .cons rfl r1
  have hsp : spI B n l (V.ref (hp.objs.size + 1) :: vs) (upd H1 (hp.objs.size + 1) (exo (hp.objs.size + 1) B none))
      (fun v H2 => v = .non ∧ ∃ dx, (upd H1 (hp.objs.size + 1) (exo (hp.objs.size + 1) B none)) dx = none ∧ dx ≠ hp.objs.size + 1 ∧ (∀ b, b ≠ hp.objs.size + 1 → b ≠ dx → H2 b = (upd H1 (hp.objs.size + 1) (exo (hp.objs.size + 1) B none)) b) ∧ H2 (hp.objs.size + 1) = some (exo (hp.objs.size + 1) B (some dx)) ∧ H2 dx = some (exd dx (xputV vs l []))) (fun _ _ _ => False) :=
    ⟨_, vs, rfl, hn, upd_same, fun dx H' a1 a2 a3 a4 a5 => ⟨rfl, dx, a1, a2, a3, a4, a5⟩⟩
  have hl : (Value.ref (hp.objs.size + 1) :: us).length = ps.length := by
    rw [← rr.length]
    exact F1.len _ _ _ _ hsp
  have bnd := hb ⟨(hp.push (PySem.W.kdv_tup us)).push (PySem.HandSPX.excO B hp.objs.size), g, dr, tk, os⟩ (Value.ref (hp.objs.size + 1) :: us) I2.kIn (by rw [List.append_nil]; exact hl)
  rw [List.append_nil] at bnd
  refine wpAny_call (PySem.HandSPX.call_own F.excBase_ValueError (fun Y => PySem.HandSPX.refsVE_contains Y bm hbm) (I1.kIn _ _ hC) (PySem.W.looks_findIn I1.kIn iC) (fun self => PySem.W.bind_fn I1.kIn self tI) ul
    (codeAny_mono (F1.run _ X.stack _ _ ⟨Value.ref (hp.objs.size + 1) :: us, []⟩ (Value.ref (hp.objs.size + 1) :: us) _ _ _ (hr.make B us []) (I2.env0.make B us []) bnd rr hsp) fun r s2 hq => ?_))
  cases r with
  | error er =>
    unfold L2.CX at hq
    obtain ⟨_, _, _, _, _, _, _, _, _, _, _, _, z⟩ := hq
    exact z.elim
  | ok fl =>
    cases fl with
    | next => exact False.elim hq
    | brk => exact False.elim hq
    | cont => exact False.elim hq
    | ret u =>
      obtain ⟨v, H2, os2, bare2, un2, hok2, rv, ev, dx, e1, e2, e3, e4, e5⟩ := hq
      subst ev
      have d1 : H1 dx = none := by rw [upd_ne e2] at e1; exact e1
      obtain ⟨h2, g2, dr2, tk2, os2'⟩ := s2
      refine ⟨rv, mk_end (raises_own T.exC T.tyC) I1 s1 keep2 un2 hok2 os2 bare2 e4 e5 d1 ?_⟩
      have eH : upd (L2.del H2 (hp.objs.size + 1)) dx (.xd (xputV vs l [])) = upd H1 dx (.xd (xputV vs l [])) := by
        funext b
        by_cases hb1 : b = dx
        · rw [hb1, upd_same, upd_same]
        · rw [upd_ne hb1, upd_ne hb1]
          by_cases hb2 : b = hp.objs.size + 1
          · rw [hb2, del_same, nn]
          · rw [del_ne hb2, e3 b hb2 hb1, upd_ne hb2]
      rw [eH]
      exact q1 dx d1
theorem pmk_x {C : Ctx} {k : Nat} {e : Expr} (ok : CtxOk C X) (h : FnIX C.P C.w C.K C.mg C.base k c n l) (le : k + 1 ≤ C.k) (hh : C.hot = false) (hg : Gl X c) (ha : PA X (e :: es) ta) (hdb : (c == ("__debug__" : Str)) = false := by decide) (hs : (e :: es).all noStar = true := by rfl) :
    ∃ B, X.mg c = some (.ref B) ∧ PMk X (.Call (.Name c p) (e :: es) [] pos) (tMkX B n l ta) := by
  obtain ⟨B, fI, fd, ps, h1, T, iC, tI, hb, F1⟩ := h
  rw [← ok.K] at T iC tI hb
  rw [← ok.prog, ← ok.w, ← ok.K, ← ok.mg, ← ok.base] at F1
  have hm : X.mg c = some (.ref B) := by rw [ok.mg]; exact h1
  have hr : Room (k + 1) X.A := (ok.room hh).mono le
  have hs2 := Bool.and_eq_true_iff.mp (show (noStar e && es.all noStar) = true from hs)
  refine ⟨B, hm, fun pins s σ H Q I h => ?_⟩
  refine wpAny_Call_Name_kw (ld_glob I hg hm ?_ hdb)
  refine PySem.W.callWith_K (h₀ := X.base) I.ok.mod.kin T.kC (thn (ha.run pos pins s σ H _ I h) fun us s1 ⟨vs, H1, I1, r1, h1, h2, h3⟩ => ⟨I1.kIn, ?_⟩) (star_eq hs2.1) (star_none (e := e) hs2.2)
  obtain ⟨hp, g, dr, tk, os⟩ := s1
  exact made_x T iC tI F1 hr hb I1 r1 h1 h2 h3
theorem pmk_x0 {C : Ctx} {k : Nat} (ok : CtxOk C X) (h : FnIX C.P C.w C.K C.mg C.base k c 0 l) (le : k + 1 ≤ C.k) (hh : C.hot = false) (hg : Gl X c) (hdb : (c == ("__debug__" : Str)) = false := by decide) :
    ∃ B, X.mg c = some (.ref B) ∧ PMk X (.Call (.Name c p) [] [] pos) (fun _ H Q => ∀ d, H d = none → Q (.ref B) (some d) (upd H d (.xd (xputV [] l [])))) := by
  obtain ⟨B, fI, fd, ps, h1, T, iC, tI, hb, F1⟩ := h
  rw [← ok.K] at T iC tI hb
  rw [← ok.prog, ← ok.w, ← ok.K, ← ok.mg, ← ok.base] at F1
  have hm : X.mg c = some (.ref B) := by rw [ok.mg]; exact h1
  have hr : Room (k + 1) X.A := (ok.room hh).mono le
  refine ⟨B, hm, fun pins s σ H Q I h => ?_⟩
  refine wpAny_Call_Name_kw (ld_glob I hg hm ?_ hdb)
  refine PySem.W.callWith_K0 I.kIn T.kC ?_
  obtain ⟨hp, g, dr, tk, os⟩ := s
  exact made_x (vs := []) (us := []) T iC tI F1 hr hb I .nil rfl (by decide) h
end

/-! ### raise C(args); C(args) as a value -/
def Rv.fzs : List Rv → Option (List D)
  | [] => some []
  | .fz d :: rs => (Rv.fzs rs).map (d :: ·)
  | _ :: _ => none
def sRaise (c : Str) (n : Nat) (l : XIn) (gs : DEnv → M (List Rv)) : GS := fun δ => sBnd (gs δ) δ fun rs st => match Rv.fzs rs with
  | some ds => if ds.length = n then some (.ex ⟨c, xputD ds l []⟩ δ, st) else none
  | none => none
def gMkX (c : Str) (n : Nat) (l : XIn) (gs : DEnv → M (List Rv)) : DEnv → M Rv := fun δ => bnd (gs δ) fun rs => opt (Rv.fzs rs) fun ds => if ds.length = n then ret (.fz (.exc c (xputD ds l []))) else fail
section
variable {g : GG} {W : WX} {E : En} {H0 F H H1 : Hp} {ρ : List Addr} {δ : DEnv} {σ : L2.St} {st : Sto}
theorem fzs_ok : ∀ {rs : List Rv} {vs : List V} {ds : List D}, RepRs g F ρ δ σ H1 H rs vs → Rv.fzs rs = some ds → Reps g F ρ ds vs
  | _, _, _, .nil, h => by cases h; exact .nil
  | r :: rs, _, ds, .cons h t, e => by
    cases r with
    | fz d =>
      unfold Rv.fzs at e
      cases q : Rv.fzs rs with
      | none => rw [q] at e; cases e
      | some z => rw [q] at e; cases e; exact .cons h (fzs_ok t q)
    | ow c => cases e
    | vw i => cases e
/-- the exception's dict is laid, frozen -/
theorem repX_new {c : Str} {B d : Addr} {n : Nat} {l : XIn} {ds : List D} {vs : List V} (S : St0 g H0 F ρ δ st σ H) (hm : g.mg c = some (.ref B)) (r : Reps g F ρ ds vs) (hd : H d = none) :
    Ext F H (upd F d (.xd (xputV vs l []))) (upd H d (.xd (xputV vs l []))) ∧ RepX g (upd F d (.xd (xputV vs l []))) ρ (upd H d (.xd (xputV vs l []))) ⟨c, xputD ds l []⟩ (.ref B) (some d) := by
  have e := ext_frz (o := .xd (xputV vs l [])) S.fs hd
  have q := put_reps (r.mono e.ff (⟨[], (List.append_nil ρ).symm⟩ : ∃ l, ρ = ρ ++ l)) l [] [] rfl .nil
  exact ⟨e, B, d, _, hm, rfl, rfl, upd_same, q.1, q.2⟩
end
section
variable {C : Ctx} {c : Str} {n k : Nat} {l : XIn} {e : Expr} {es : List Expr} {gs : DEnv → M (List Rv)} {p pos pos' : Pos}
theorem ds_raise (h : FnIX C.P C.w C.K C.mg C.base k c n l) (le : k + 1 ≤ C.k) (hg : Glo C c) (ha : DA C (e :: es) gs) (hh : C.hot = false := by rfl) (hz : decide (n ≤ 1000) = true := by rfl) (hdb : (c == ("__debug__" : Str)) = false := by decide) (hs : (e :: es).all noStar = true := by rfl) :
    DS C (.Raise (some (.Call (.Name c p) (e :: es) [] pos)) none pos') (sRaise c n l gs) := fun X W ok tk => by
  obtain ⟨B, hm, hp⟩ := pmk_x (p := p) (pos := pos) ok h le hh (ok.glo hg) (ha X W ok tk) hdb hs
  refine psW (ps_raise (ok.calm hh) tk hp) fun D σ H ⟨E, F, ρ, δ, st, A, S, P⟩ => ?_
  refine ⟨E.H0, F, ρ, δ, st, S, PostS_bndA A P fun F' ρ' st' H' vs rs A0 A' S' R' P' => ?_⟩
  cases q : Rv.fzs rs with
  | none => rw [q] at P'; exact P'.elim
  | some ds =>
    rw [q] at P'
    dsimp only at P'
    split at P'
    · rename_i hn
      have r := fzs_ok R' q
      have hv : vs.length = n := by rw [← r.length]; exact hn
      have hz := of_decide_eq_true hz
      refine ⟨hv, by omega, fun d hd => ?_⟩
      obtain ⟨e1, x1⟩ := repX_new (n := n) (l := l) S' (show (xg X).mg c = some (.ref B) from hm) r hd
      exact P' _ _ σ ρ' _ _ (A'.step e1.after) (S'.ext e1) x1
    · exact P'.elim
theorem ds_raise0 (h : FnIX C.P C.w C.K C.mg C.base k c 0 l) (le : k + 1 ≤ C.k) (hg : Glo C c) (hh : C.hot = false := by rfl) (hdb : (c == ("__debug__" : Str)) = false := by decide) :
    DS C (.Raise (some (.Call (.Name c p) [] [] pos)) none pos') (sRaise c 0 l gNil) := fun X W ok tk => by
  obtain ⟨B, hm, hp⟩ := pmk_x0 (p := p) (pos := pos) ok h le hh (ok.glo hg) hdb
  refine psW (ps_raise (ok.calm hh) tk hp) fun D σ H ⟨E, F, ρ, δ, st, A, S, P⟩ => ?_
  intro d hd
  obtain ⟨e1, x1⟩ := repX_new (n := 0) (l := l) S (show (xg X).mg c = some (.ref B) from hm) .nil hd
  exact P _ _ σ ρ _ _ (A.step e1.after) (S.ext e1) x1
/-- an exception made and kept -/
theorem pe_mkX {X : Cx} {t : L2.St → Hp → XK → Prop} (h : PMk X e t) : PE X e (fun σ H Q => t σ H fun cls d H' => ∃ dx, d = some dx ∧ ∀ a, H' a = none → Q (.ref a) (upd H' a (ExZ cls dx a))) := by
  refine ⟨fun pins s σ H Q I hh => ?_⟩
  refine wpAny_mono (h pins s σ H _ I hh) (fun u s1 hu => ?_) fun _ _ z => z
  obtain ⟨a, oe, vs, sI, H', cls, d, e1, J, k, hne, ha, hz, hd, h1, na, os, ag, r, dx, e2, q⟩ := hu
  subst e1
  subst e2
  obtain ⟨hp, g, dr, tk, os0⟩ := s1
  obtain ⟨hI, gI, dI, tI, osI⟩ := sI
  have eo : os0 = osI := os
  subst eo
  refine ⟨.ref a, upd H' a (ExZ cls dx a), ?_, rfl, q a na⟩
  have ob : ObjOk X.prog X.w (upd H' a (ExZ cls dx a)) hp a (ExZ cls dx a) := ⟨⟨oe, vs, ha, hz, hd⟩, ⟨oe, ha⟩, fun h1 h2 ⟨oe, vs, x1, x2, x3⟩ st => ⟨oe, vs, st _ x1, x2, x3⟩⟩
  have J2 := J.laidN (t' := tk) k hne na ob
  exact ⟨J2.ok, J2.os, ag, J2.base, J2.loc, J2.cell, J2.free, J2.freeC, J2.pin, J2.hok, J2.len⟩
end
end DL

/-! DL33: try, except C as n | except (C, C2) as n: the caught exception is a value. -/
namespace DL
open PySem PySem.Spec PyProof.Rows L2 TL
set_option autoImplicit false

/-- one class, or two in a tuple -/
inductive ClT (X : Cx) : Expr → List Value → Prop
  | one {x : Str} {v : Value} {p : Pos} : Names X x v → ClT X (.Name x p) [v]
  | two {x y : Str} {v w : Value} {p p2 p3 : Pos} {k : Nat} : Names X x v → Names X y w → ClT X (.Tuple [.Name x p, .Name y p2] k p3) [v, w]
def exmL (K : PySem.W.Frag) (cls : Value) : List Value → Option Bool
  | [c] => PySem.W.exmOne K cls c
  | cs => PySem.W.exmAny K cls cs
section
variable {M : Model} {X : Cx} {pins : List (Addr × Obj)} {σ : L2.St} {H : Hp} {s : Shared}
/-- a class's name read -/
theorem ld_names {x : Str} {v : Value} {p : Pos} {Q : Value → Shared → Prop} {E : Value → Shared → Prop} (I : Inv X pins σ H s) (hc : Names X x v) (q : Q v s) : wpAny (model X.prog X.w) X.A (eval (.Name x p) X.env) Q E s := by
  obtain ⟨hg, hdbg, hm | ⟨hm, hv, hnn⟩⟩ := hc
  · exact ld_glob I hg hm q hdbg
  · exact ld_blt I hg hm hv q hnn hdbg
/-- the clause's test -/
theorem clt_test {t : Expr} {cs : List Value} {cls : Value} {a : Addr} {b : Bool} {Q : Bool → Shared → Prop} {E : Value → Shared → Prop} (hc : ClT X t cs) (I : Inv X pins σ H s) (LT : PySem.W.Looks (model X.prog X.w) s.heap (typeOf (.ref a)) cls) (hb : exmL X.K cls cs = some b)
    (q : ∀ h', (∀ c o, s.heap.get? c = some o → h'.get? c = some o) → Q b { s with heap := h' }) : wpAny (model X.prog X.w) X.A (eval t X.env) (fun c s1 => wpAny (model X.prog X.w) X.A (excMatches (.ref a) c) Q E s1) E s := by
  cases hc with
  | one h => exact ld_names I h ((PySem.W.exm_one I.kIn LT hb).here (q s.heap fun _ _ z => z))
  | @two x y v w p p2 p3 k h1 h2 =>
    refine wpAny_Tuple (wpAny_items_cons (ld_names I h1 (wpAny_items_cons (ld_names I h2 (wpAny_items_nil ⟨by size_fits, ?_⟩)))))
    have kp : ∀ c o, s.heap.get? c = some o → (s.heap.push { cls := .type "tuple", data := .seq [v, w].toArray }).get? c = some o := fun _ _ z => Heap.get?_push_of_some _ z
    exact (PySem.W.exm_tup2 (I.kIn.keeps kp) (LT.keeps kp) (Heap.get?_push_size s.heap rfl) hb).here (q _ kp)
theorem flying_keeps {B h h' : Heap} {l : List Env} {a : Addr} {Z : Obj → Prop} (x : PySem.HandSPX.FlyingZ B l a Z h) (k : ∀ c o, h.get? c = some o → h'.get? c = some o) : PySem.HandSPX.FlyingZ B l a Z h' := by
  obtain ⟨x1, x2, x3, oe, vs, T, oT, ts, y1, y2, y3, y4, y5, y6, y7, y8, y9⟩ := x
  exact ⟨fun c o e => k c o (x1 c o e), x2, Heap.FunFrames.of_keeps (fun b o e _ => ⟨o, k b o e, rfl⟩) x3, oe, vs, T, oT, ts, k _ _ y1, y2, y3, y4, y5, y6, k _ _ y7, y8, y9⟩
/-- the caught exception is told of from now on -/
theorem inv_caught {sI : Shared} {h : Heap} {cls : Value} {dx a : Addr} {oe : Obj} {vs : Array Value} (I : Inv X pins σ H { s with heap := h }) (I0 : Inv X pins σ H sI) (ha : h.get? a = some oe) (hz : Zc cls (some dx) oe) (hd : oe.data = .fields vs)
    (na : H a = none) (nL : a ≠ X.env.locals) (nF : a ∉ X.fs) (n0 : sI.heap.get? a = none) (ns : X.s_0.heap.get? a = none) : Inv X pins σ (upd H a (ExZ cls dx a)) { s with heap := h } := by
  have nc : ∀ x c, X.env.cells.lookup x = some c → c ≠ a := fun x c e z => by
    obtain ⟨w, o, ho, hw⟩ := I.cell x c e
    subst z
    rw [show ({ s with heap := h } : Shared).heap.get? c = h.get? c from rfl, ha] at ho
    cases ho
    rw [hd] at hw
    cases hw
  refine ⟨I.ok, I.os, I.bare, ⟨I.base.keep, I.base.slot, fun b o e n hx => ?_, I.base.there, fun b xs e => ?_, fun b o u e => ?_, fun b ps e => ?_⟩, I.loc, I.cell, ?_, fun x c e => ?_, fun p hp => ?_, ?_, I.len⟩
  · have hb : b ≠ a := fun z => by rw [z, ns] at e; cases e
    rw [upd_ne hb]
    exact I.base.free b o e n hx
  · have e1 := I.base.tups b xs e
    rw [upd_ne (ne_of_none e1 na)]
    exact e1
  · have e1 := I.base.frzs b o u e
    rw [upd_ne (ne_of_none e1 na)]
    exact e1
  · obtain ⟨more, e1⟩ := I.base.tbls b ps e
    exact ⟨more, by rw [upd_ne (ne_of_none e1 na)]; exact e1⟩
  · rw [upd_ne (Ne.symm nL)]
    exact I.free
  · rw [upd_ne (nc x c e)]
    exact I.freeC x c e
  · obtain ⟨e1, e2, e3⟩ := I.pin p hp
    have hb : p.1 ≠ a := fun z => by
      have e4 := (I0.pin p hp).1
      rw [z, n0] at e4
      cases e4
    exact ⟨e1, by rw [upd_ne hb]; exact e2, e3⟩
  · exact I.hok.laidN (fun _ _ z => z) na ⟨⟨oe, vs, ha, hz, hd⟩, ⟨oe, ha⟩, fun h1 h2 ⟨oe, vs, x1, x2, x3⟩ st => ⟨oe, vs, st _ x1, x2, x3⟩⟩
theorem inv_toSuite (I : Inv X pins σ H s) (a : Addr) : Inv (X.suite a (X.pn ++ pins)) [] σ H s :=
  ⟨I.ok.suite _ _, I.os, I.bare, I.base, I.loc, I.cell, I.free, I.freeC, fun p hp => I.pin p (by rw [List.append_nil] at hp; exact hp), I.hok, I.len⟩
theorem inv_ofSuite {a : Addr} {pn : List (Addr × Obj)} (I : Inv (X.suite a (X.pn ++ pins)) pn σ H s) (ok : X.Ok) : Inv X pins σ H s :=
  ⟨ok, I.os, I.bare, I.base, I.loc, I.cell, I.free, I.freeC, fun p hp => I.pin p (List.mem_append_left _ hp), I.hok, I.len⟩
end
/-- what the clause wishes of the body's exceptions -/
def wKin (K : PySem.W.Frag) (cs : List Value) (i : Nat) (ts : TS) (Wout : WX) (D : Ends) : WX := fun cls d σ H =>
  ∃ b, exmL K cls cs = some b ∧ (b = true → ∃ dx, d = some dx ∧ ∀ a, H a = none → ts { nx := fun σ' H' => D.nx (σ'.set i none) H', rt := D.rt, bk := fun σ' H' => D.bk (σ'.set i none) H', ct := fun σ' H' => D.ct (σ'.set i none) H' } (σ.set i (some (.ref a))) (upd H a (ExZ cls dx a))) ∧
    (b = false → Wout cls d σ H)
section
variable {X : Cx} {n : Str} {t : Expr} {cs : List Value} {i : Nat} {body suite : List Stmt} {b₀ : Stmt} {pos pos' : Pos} {tb : WX → TS} {ts : TS} {Wout : WX}
theorem ps_try_kin (hs : X.stack = X.env :: X.outer) (hf : X.env.frame = some X.env.locals) (hex : X.ex = []) (hN : X.N.Nodup) (hi : X.N[i]? = some n) (hln : X.env.kindOf n = some .local) (hc : ClT X t cs) (tk : Takes X Wout)
    (hb : ∀ (W : WX) (pn : List (Addr × Obj)) (xe : Value → Shared → Prop), Takes (X.tr pn xe) W → PassesOwn (model X.prog X.w) X.A X.env xe → PSs (X.tr pn xe) body (tb W))
    (hsu : ∀ (a : Addr) (pn : List (Addr × Obj)), PSs (X.suite a pn) (b₀ :: suite) ts) :
    PS X (.Try body [.ExceptHandler (some t) (some n) (b₀ :: suite) pos'] [] [] pos) (fun D σ H => tb (wKin X.K cs i ts Wout D) D σ H) := by
  refine ⟨fun pins s σ H D I h => ?_⟩
  have ok := I.ok
  have hA : X.A.frames = some (X.env :: X.outer) := by rw [ok.frames, hs]
  refine wpAny_Try_except ?_
  refine wpAny_mono ((hb (wKin X.K cs i ts Wout D) (X.pn ++ pins) (fun e s1 => wpAny (model X.prog X.w) X.A (noteFrame e X.env) (fun _ s2 => wpAny (model X.prog X.w) X.A (setFlight e none) (fun _ s3 =>
    wpAny (model X.prog X.w) X.A (handleBy e X.env [.ExceptHandler (some t) (some n) (b₀ :: suite) pos']) (SP X pins D) X.xe s3) X.xe s2) X.xe s1) (fun u s2 xx => ?_) PassesOwn.looking).run [] s σ H D (I.toTry _) h) (fun f s1 hsp => ?_) (fun e s1 he => he)
  · obtain ⟨a, B, sI, pins2, σ2, H2, cls, d, rfl, J0, nb, up, sky, na, os, ag, b, hb1, hyes, hno⟩ := xx
    have J : Inv X pins σ2 H2 sI := J0.ofTry ok
    have sky2 : Sky B (X.env :: X.outer) a (Zc cls d) X.env.locals s2.heap := by rw [← hs]; exact sky
    show wpAny (model X.prog X.w) X.A (noteFrame (.ref a) X.env) _ _ _
    refine Sky.land Zc.steady hA hf sky2 fun h3 fl up3 => ?_
    have J3 : Inv X pins σ2 H2 { s2 with heap := h3 } := J.landed nb fl.1 (up.trans up3) os ag
    obtain ⟨oe3, vs3, he3, hz3, hd3⟩ := fl.there
    have noFr : a ∉ frs (X.env :: X.outer) := fun hm => by
      obtain ⟨_, o, e, hnf⟩ := fl.2.2.1.mem hm
      rw [he3] at e
      cases e
      exact hnf _ hd3
    have nL : a ≠ X.env.locals := fun z => noFr (List.mem_filterMap.mpr ⟨X.env, List.mem_cons_self, (by rw [hf, z])⟩)
    have nF : a ∉ X.fs := fun hm => by
      obtain ⟨e, he, q⟩ := List.mem_filterMap.mp hm
      exact noFr (List.mem_filterMap.mpr ⟨e, List.mem_cons_of_mem _ he, q⟩)
    have nI : sI.heap.get? a = none := by
      cases q : sI.heap.get? a with
      | none => rfl
      | some o =>
        have z := nb a o q (by rw [hs]; exact noFr)
        rw [fl.2.1] at z
        cases z
    have n0 : X.s_0.heap.get? a = none := by
      cases q : X.s_0.heap.get? a with
      | none => rfl
      | some o =>
        obtain ⟨o2, z⟩ := J.base.there a o q (by rw [hex]; simp)
        rw [nI] at z
        cases z
    have LT : PySem.W.Looks (model X.prog X.w) h3 (typeOf (.ref a)) cls := fun A Q E s k q => wpAny_typeOf_ref (k _ _ he3) (by rw [hz3.1]; exact q)
    refine wpAny_handleBy_cons (codeAny_handlers_test ?_) (by intro q; cases q)
    have S3 : Inv (X.suite a (X.pn ++ pins)) [] σ2 H2 { s2 with heap := h3 } := inv_toSuite J3 a
    have hc2 : ClT (X.suite a (X.pn ++ pins)) t cs := by
      cases hc with
      | one h1 => exact .one h1
      | two h1 h2 => exact .two h1 h2
    refine clt_test (X := X.suite a (X.pn ++ pins)) hc2 S3 LT hb1 fun h5 k5 => ?_
    have fl5 := flying_keeps fl k5
    have up5 : h3.UpToSlots h5 := Heap.UpToSlots.of_keeps k5
    cases b with
    | true =>
      obtain ⟨dx, ed, hyes2⟩ := hyes rfl
      subst ed
      refine codeAny_handlers_suite_as ?_
      refine PySem.HandSPX.lands_againZ fl5 fun h4 fl4 up4 => ?_
      have J4 : Inv X pins σ2 H2 { s2 with heap := h4 } := J.landed nb fl4.1 (((up.trans up3).trans up5).trans up4) os ag
      obtain ⟨oe4, vs4, he4, hz4, hd4⟩ := fl4.there
      have J5 := inv_toSuite (inv_caught J4 J he4 hz4 hd4 na nL nF nI n0) a
      refine store_ok (X := X.suite a (X.pn ++ pins)) (v := .ref a) J5 hN hi (.inl hln) rfl (fun s5 S5 => ?_) (.inr hln)
      refine wpAny_mono ((hsu a (X.pn ++ pins)).run [] s5 _ _ _ S5 (hyes2 a na)) (fun f s6 hsp => ?_) (fun _ _ z => False.elim z)
      have goes : ∀ {σ6 : L2.St} {H6 : Hp} {Q : Shared → Prop}, Inv (X.suite a (X.pn ++ pins)) [] σ6 H6 s6 → (∀ s7, Inv X pins (σ6.set i none) H6 s7 → Q s7) →
          wpAny (model X.prog X.w) X.A (do bindName X.env n .none; unbindBehindTheSuite X.env n pos') (fun _ s7 => Q s7) X.xe s6 := fun {σ6 H6 Q} S6 hq => gone_ok (inv_ofSuite S6 ok) hN hi hln hq
      cases f with
      | next =>
        obtain ⟨σ6, H6, S6, q6⟩ := hsp
        exact goes S6 fun s7 J7 => ⟨_, _, J7, q6⟩
      | brk =>
        obtain ⟨σ6, H6, S6, q6⟩ := hsp
        exact goes S6 fun s7 J7 => ⟨_, _, J7, q6⟩
      | cont =>
        obtain ⟨σ6, H6, S6, q6⟩ := hsp
        exact goes S6 fun s7 J7 => ⟨_, _, J7, q6⟩
      | ret u =>
        obtain ⟨v6, σ6, H6, S6, r6, q6⟩ := hsp
        exact goes S6 fun s7 J7 => ⟨_, _, _, J7, r6, q6⟩
    | false =>
      show wpAny _ X.A (handleBy (.ref a) X.env []) _ _ _
      refine wpAny_handleBy_nil ?_
      obtain ⟨y1, y2, y3, oe, vs, T, oT, ts', he, hz, hd, h1, hr⟩ := id fl5
      unfold PySem.passOn
      refine wpAny_bind (wpAny_field he hd h1 ?_)
      rw [if_neg (show ¬ ((Value.ref T == Value.none) = true) by simp)]
      have fin : wpAny (model X.prog X.w) X.A (setFlight (.ref a) X.env.frame) (fun _ s4 => wpAny (model X.prog X.w) X.A (throw (.ref a) : Sem Flow) (SP X pins D) X.xe s4) X.xe { s2 with heap := h5 } := by
        rw [hf]
        refine PySem.HandSPX.setFlight_upZ fl5 fun h4 hh4 up4 => wpAny_throw (tk _ _ ?_)
        exact ⟨a, B, sI, pins, σ2, H2, cls, d, rfl, J, nb, ((up.trans up3).trans up5).trans up4, .inr (.inr (by rw [hs]; exact hh4)), na, os, ag, hno rfl⟩
      first
        | exact wpAny_bind (wpAny_pure (wpAny_bind fin))
        | exact wpAny_bind fin
  · cases f with
    | next =>
      obtain ⟨σ', H', J', q⟩ := hsp
      exact wpAny_execs_nil ⟨_, _, J'.ofTry ok, q⟩
    | brk =>
      obtain ⟨σ', H', J', q⟩ := hsp
      exact ⟨_, _, J'.ofTry ok, q⟩
    | cont =>
      obtain ⟨σ', H', J', q⟩ := hsp
      exact ⟨_, _, J'.ofTry ok, q⟩
    | ret u =>
      obtain ⟨v, σ', H', J', r, q⟩ := hsp
      exact ⟨_, _, _, J'.ofTry ok, r, q⟩
end
end DL

/-! DL34: defs called while an exception is handled; try as a statement. -/
namespace DL
open PySem PySem.Spec PyProof.Rows L2 TL
set_option autoImplicit false

structure RoomW (k : Nat) (A : Around) : Prop where
  dp : A.depth + 3 * k + 5 < recursionLimit
  un : A.units + 16 * k + 200 < cLine
theorem RoomW.deeper {k : Nat} {A : Around} (r : RoomW (k + 1) A) (env : Env) : RoomW k (A.deeper env) :=
  ⟨by have := r.dp; show A.depth + 1 + 3 * k + 5 < recursionLimit; omega, by have := r.un; show A.units + 3 + 16 * k + 200 < cLine; omega⟩
theorem RoomW.mono {j k : Nat} {A : Around} (r : RoomW k A) (h : j ≤ k) : RoomW j A := ⟨by have := r.dp; omega, by have := r.un; omega⟩
/-- what a def promises wherever it is called -/
structure FnW (P : Program) (w : World) (K : PySem.W.Frag) (mg : Str → Option Value) (base : Heap) (k : Nat) (f : Addr) (fd : FuncData) (ps : List Str) (sp : Sp) : Prop where
  len : ∀ vs H Q E, sp vs H Q E → vs.length = ps.length
  run : ∀ (A : Around) (outer : List Env) (s : Shared) (H : Hp) (args : Args) (us : List Value) (vs : List V) (Q : VK) (E : XK), RoomW k A → Env0 P w K mg base A outer s H → BindsTo s fd args (ps.zip us) → Vals vs us → sp vs H Q E →
    codeAny (model P w) A (.call (.ref f) args) (CR (L2.CX P w) outer P w H s Q E) s
abbrev cxW (P : Program) (w : World) (K : PySem.W.Frag) (mg : Str → Option Value) (base : Heap) (N : List Str) (qual : Str) (scope : Scope) (f : Addr) (cd : Value) (A : Around) (outer : List Env) (s : Shared) (H : Hp) (E : XK) : Cx :=
  { cxOf (L2.CX P w) P w K mg base N qual scope f cd A outer s H E with calm := false }
section
variable {P : Program} {w : World} {K : PySem.W.Frag} {mg : Str → Option Value} {base : Heap} {N ps : List Str} {qual x : Str} {scope : Scope} {f : Addr} {cd : Value} {A : Around} {outer : List Env} {s s1 : Shared} {H : Hp} {E : XK} {us : List Value} {vs : List V} {k n : Nat}
theorem start_W (S : FnScope N ps scope) (e0 : Env0 P w K mg base A outer s H) (hl : vs.length = ps.length) (r : Vals vs us)
    (c : InCallC s s.heap.objs.size (bindL (envOfC qual scope s.heap.objs.size f cd).kindOf (ps.zip us) fun _ => none) (cellsFrom (s.heap.objs.size + 1) scope.names []) (bindC (envOfC qual scope s.heap.objs.size f cd).kindOf (ps.zip us) fun _ => none) s1) :
    L2.Inv (cxW P w K mg base N qual scope f cd A outer s H E) [] (L2.start N vs) H s1 := by
  have e1 : Env0 P w K mg base { A with handled := none } outer s H := ⟨e0.frames, e0.mod, e0.bs, e0.bsz, e0.funs, e0.frf, e0.hok, e0.bare⟩
  have I := inv_start (CX := L2.CX P w) (N := N) (E := E) S rfl e1 hl r c
  exact ⟨⟨I.ok.mod, I.ok.kind, I.ok.glob, I.ok.blt, I.ok.above, I.ok.inj, I.ok.has, I.ok.cab, (fun z => nomatch (show false = true from z)), Around.frames_deeper e0.frames, I.ok.stk, I.ok.exf, I.ok.bs, I.ok.bsz, I.ok.noex, I.ok.exfs, I.ok.funs, I.ok.frf⟩,
    I.os, I.bare, I.base, I.loc, I.cell, I.free, I.freeC, I.pin, I.hok, I.len⟩
theorem fnW {params : Arguments} {body : List Stmt} {fd : FuncData} {sp : Sp} (F : FunD K x qual params body scope [] [] f fd) (S : FnScope N ps scope) (len : ∀ vs H Q E, sp vs H Q E → vs.length = ps.length)
    (hbody : ∀ (cdv : Value) (A : Around) (outer : List Env) (s : Shared) (H : Hp) (vs : List V) (Q : VK) (E : XK), RoomW k (A.deeper (envOfC qual scope s.heap.objs.size f cdv)) → sp vs H Q E →
      ∃ t, PSs (cxW P w K mg base N qual scope f cdv A outer s H E) body t ∧ t { nx := fun _ H' => Q .non H', rt := Q } (L2.start N vs) H) : FnW P w K mg base (k + 1) f fd ps sp := by
  obtain ⟨oc, od, dV, kV, doc, pm, an, cdv, ct, osl, rfl, lk, hcd, _, _⟩ := F.ex
  refine ⟨len, fun A outer s H args us vs Q E hr e0 hb r hsp => ?_⟩
  have hl := len _ _ _ _ hsp
  have KX : K.In s.heap := e0.mod.kin.keeps fun b o q => (e0.bs b o q).1
  have lim : s.heap.NoLimit := e0.mod.nolimit.keeps fun b o q => (e0.bs b o q).1
  have hkind : ∀ y ∈ ps.zip us, scope.names.lookup y.1 = some .local ∨ (scope.names.lookup y.1 = some .cell ∧ ((cellsFrom (s.heap.objs.size + 1) scope.names []).lookup y.1).isSome = true) := fun ⟨n, v⟩ hy =>
    (S.par n (List.of_mem_zip hy).1).imp id fun q => ⟨q, PySem.W.cellsFrom_some _ _ _ (.inl q)⟩
  refine codeAny_call_function (show A.depth < recursionLimit by have := hr.dp; omega) (KX _ _ lk) rfl S.co S.gen rfl (PySem.W.codeRec_of KX hcd) (hb _ _ _ _ (wpAny_newFunctionEnv_cells S.kind hkind fun env he s1 c => ?_))
  subst he
  refine ⟨lim.keeps c.toInCall.keep, codeAny_func ?_⟩
  obtain ⟨t, ht, hq⟩ := hbody cdv A outer s H vs Q E (hr.deeper _) hsp
  have I := start_W (N := N) (E := E) S e0 hl r c
  refine wpAny_mono (ht.run [] s1 (L2.start N vs) H _ I hq) (fun fl s' hs => ?_) fun e s' hs => hs
  have done : ∀ {σ' : L2.St} {H' : Hp} {v : V} {u : Value}, L2.Inv (cxW P w K mg base N qual scope f cdv A outer s H E) [] σ' H' s' → RelV v u → Q v H' → CE outer P w H s Q u s' := fun J rv q => ⟨_, _, J.os, J.bare, J.base, J.hok, rv, q⟩
  cases fl with
  | ret u =>
    obtain ⟨_, _, _, J, rv, q⟩ := hs
    exact done J rv q
  | next =>
    obtain ⟨_, _, J, q⟩ := hs
    exact done (v := V.non) (u := Value.none) J rfl q
  | brk =>
    obtain ⟨_, _, _, q⟩ := hs
    exact q.elim
  | cont =>
    obtain ⟨_, _, _, q⟩ := hs
    exact q.elim
end
/-- the def of a name, wherever it is called -/
def FnWX (P : Program) (w : World) (K : PySem.W.Frag) (mg : Str → Option Value) (base : Heap) (k : Nat) (x : Str) (n : Nat) (f : List D → M Rv) : Prop :=
  ∃ (fa : Addr) (fd : FuncData) (ps : List Str), mg x = some (.ref fa) ∧ PySem.W.keepIn K (.ref fa) = true ∧ Binds K fd ps [] ∧ FnW P w K mg base k fa fd ps (spD ⟨K, mg⟩ n f)
theorem fnwx {P : Program} {w : World} {K : PySem.W.Frag} {mg : Str → Option Value} {base : Heap} {k n : Nat} {x : Str} {stm : Stmt} {N ps : List Str} {gs : GS} (h : HD K mg x stm) (Sc : FnScope N ps (defScope stm)) (hn : ps.length = n)
    (hbd : ∀ (kV doc pm : Value) (an : Option Addr) (cdv ct : Value) (us : List Value), us.length = ps.length → bindArgs (PySem.W.fnOf x x (defArgs stm) (defBody stm) (defScope stm) .none kV doc pm an cdv ct) ⟨us, []⟩ = pure (ps.zip us))
    (hb : DSs ⟨P, w, K, mg, base, N, defScope stm, k, fun _ => true, true, none⟩ (defBody stm) gs) : FnWX P w K mg base (k + 1) x n (runB N gs) := by
  subst hn
  obtain ⟨fa, fd, Fn, hm⟩ := h
  refine ⟨fa, fd, ps, hm, Fn.kp, Fn.bindsN hbd, fnW (N := N) Fn Sc (fun vs H Q E h => spD_len h) fun cdv A outer s H vs Q E hr h => ?_⟩
  obtain ⟨F, ρ, ds, st, S, R, hl, Po⟩ := h
  have ok : CtxOk ⟨P, w, K, mg, base, N, defScope stm, k, fun _ => true, true, none⟩ (cxW P w K mg base N x (defScope stm) fa cdv A outer s H E) :=
    ⟨rfl, rfl, rfl, rfl, rfl, rfl, rfl, (fun z => nomatch z), (fun z => nomatch z), hr.dp, hr.un, passes_of rfl, Sc.nd, fun _ _ => rfl, fun _ _ z => nomatch z⟩
  refine ⟨_, hb _ (fun cls d _ H => E cls d H) ok (takes_of rfl rfl rfl (E := E) rfl), ?_⟩
  refine ⟨⟨H, F, ρ, F, ρ⟩, F, ρ, startD N ds, st, ⟨.refl, Same.refl F, ⟨[], by simp⟩⟩, start_ok S R, ?_⟩
  unfold runB at Po
  match e : gs (startD N ds) st, Po with
  | none, Po => exact Po
  | some (.nx δ', st'), Po => exact fun σ' ρ' F' H' A' S' => Po .non ρ' F' H' A'.a ⟨S'.fs, S'.sto⟩ .non
  | some (.rt r, st'), Po => exact fun v ρ' F' H' A' S' R' => Po v ρ' F' H' A'.a S' R'
  | some (.bk _, _), Po => exact Po.elim
  | some (.ct _, _), Po => exact Po.elim
  | some (.ex x δ', st'), Po => exact fun c d σ' ρ' F' H' A' S' R' => Po c d ρ' F' H' A'.a ⟨S'.fs, S'.sto⟩ R'
section
variable {X : Cx} {k : Nat} {f : Addr} {fd : FuncData} {ps : List Str} {sp : Sp} {E : L2.St → XK} {x : Str} {q pos : Pos} {e : Expr} {es : List Expr} {t : TA}
theorem pe_callW (F : FnW X.prog X.w X.K X.mg X.base k f fd ps sp) (hr : RoomW k X.A) (hg : Gl X x) (hm : X.mg x = some (.ref f)) (hk : PySem.W.keepIn X.K (.ref f) = true) (hb : Binds X.K fd ps []) (hx : ∀ σ, PassesAt (L2.CX X.prog X.w) X σ (E σ))
    (ha : PA X (e :: es) t) (hdb : (x == ("__debug__" : Str)) = false) (he : starEach (e :: es) X.env = (false, eval e X.env) :: starEach es X.env) (hpl : (backTo pos (starEach es X.env)).any (·.1) = false) :
    PE X (.Call (.Name x q) (e :: es) [] pos) (tCallS sp E t) := by
  refine ⟨fun pins s σ H Q I h => wpAny_Call_Name_kw (ld_glob I hg hm ?_ hdb)⟩
  refine PySem.W.callWith_K (h₀ := X.base) I.ok.mod.kin hk (thn (ha.run pos pins s σ H _ I h) fun us s1 ⟨vs, H1, I1, r, q⟩ => ⟨I1.kIn, ?_⟩) he hpl
  have hl : us.length = ps.length := by rw [← r.length]; exact F.len _ _ _ _ q
  have b := hb s1 us I1.kIn (by rw [List.append_nil]; exact hl)
  rw [List.append_nil] at b
  refine wpAny_call (codeAny_mono (F.run X.A X.stack s1 H1 ⟨us, []⟩ us vs Q (E σ) hr I1.env0 b r q) fun r s2 hq => ?_)
  cases r with
  | error z => exact hx σ pins H1 s1 z s2 I1 hq
  | ok fl =>
    cases fl with
    | ret u => exact I1.after hq
    | next => exact hq.elim
    | brk => exact hq.elim
    | cont => exact hq.elim
end
section
variable {C : Ctx} {e : Expr} {es : List Expr} {gs : DEnv → M (List Rv)} {x : Str} {p pos : Pos} {f : List D → M Rv} {n k : Nat}
theorem de_callW (hf : FnWX C.P C.w C.K C.mg C.base k x n f) (le : k ≤ C.k) (hg : Glo C x) (ha : DA C (e :: es) gs) (hdb : (x == ("__debug__" : Str)) = false := by decide) (hs : noStar e = true := by rfl) (hss : es.all noStar = true := by rfl) :
    DE C (.Call (.Name x p) (e :: es) [] pos) (gCall n f gs) := fun X W ok tk => by
  obtain ⟨fa, fd, ps, h1, h2, h3, h4⟩ := hf
  have e1 : C.gg = xg X := by unfold Ctx.gg xg; rw [ok.K, ok.mg]
  have e2 : spD ⟨C.K, C.mg⟩ n f = spD (xg X) n f := by rw [← e1]
  have h5 : FnW X.prog X.w X.K X.mg X.base k fa fd ps (spD (xg X) n f) := by
    rw [ok.prog, ok.w, ok.base, ok.K, ok.mg, ← e2]
    exact h4
  have hr : RoomW k X.A := ⟨by have := ok.dpH; omega, by have := ok.unH; omega⟩
  exact peW (pe_callW h5 hr (ok.glo hg) (by rw [ok.mg]; exact h1) (by rw [ok.K]; exact h2) (by rw [ok.K]; exact h3) (fun σ => passAt tk σ) (ha X W ok tk) hdb (star_eq hs) (star_none (e := e) hss)) fun σ H Q h => call_rd h
end

/-! ### slots set and cleared -/
section
variable {g : GG} {H0 F H : Hp} {ρ : List Addr} {δ : DEnv} {σ : L2.St} {st : Sto} {i : Nat} {d : D} {v : V}
theorem St0.setD (S : St0 g H0 F ρ δ st σ H) (R : Rep g F ρ d v) : St0 g H0 F ρ (δ.set i (some (.fz d))) st (σ.set i (some v)) H :=
  set_ok (H0 := H0) (F0 := F) (ρ0 := ρ) (F1 := F) (ρ1 := ρ) (H1 := H) (st1 := st) (r := .fz d) (fun _ z => nomatch z) S .refl S R rfl
theorem St0.clr (S : St0 g H0 F ρ δ st σ H) : St0 g H0 F ρ (δ.set i none) st (σ.set i none) H := by
  have key : ∀ (j : Nat) (s : SV), (δ.set i none)[j]? = some (some s) → j ≠ i ∧ δ[j]? = some (some s) := fun j s h => by
    by_cases z : j = i
    · subst z
      by_cases hj : j < δ.length
      · rw [List.getElem?_set_self hj] at h
        cases h
      · rw [List.getElem?_eq_none (by simpa using hj)] at h
        cases h
    · rw [List.getElem?_set_ne (Ne.symm z)] at h
      exact ⟨z, h⟩
  have keyS : ∀ (j : Nat), j ≠ i → (σ.set i none)[j]? = σ[j]? := fun j z => List.getElem?_set_ne (Ne.symm z)
  refine ⟨S.fs, by rw [List.length_set, List.length_set]; exact S.len, fun j s h => ?_, fun j k b cj ck hj hk sj sk => ?_, S.sto⟩
  · obtain ⟨z, h2⟩ := key j s h
    rw [keyS j z]
    exact S.slot j s h2
  · obtain ⟨z1, k1⟩ := key j _ hj
    obtain ⟨z2, k2⟩ := key k _ hk
    rw [keyS j z1] at sj
    rw [keyS k z2] at sk
    exact S.dist j k b cj ck k1 k2 sj sk
end

/-! ### try: body, except (C, ..) as n: suite -/
def kinOf (xs : List Kin) (hs : List Str) (c : Str) : Option Bool := (xs.find? fun k => k.1 == c).map fun k => hs.any fun h => k.2.contains h
def sTry (xs : List Kin) (hs : List Str) (i : Nat) (gb gs : GS) : GS := fun δ st => match gb δ st with
  | some (.ex x δ1, st1) => match kinOf xs hs x.cls with
    | some true => match gs (δ1.set i (some (.fz (.exc x.cls x.fs)))) st1 with
      | some (.nx δ2, st2) => some (.nx (δ2.set i none), st2)
      | some (.bk δ2, st2) => some (.bk (δ2.set i none), st2)
      | some (.ct δ2, st2) => some (.ct (δ2.set i none), st2)
      | some (.rt r, st2) => some (.rt r, st2)
      | _ => none
    | some false => some (.ex x δ1, st1)
    | none => none
  | o => o
inductive ClN (C : Ctx) : Expr → List Str → Prop
  | one {x : Str} {p : Pos} : Glo C x → (x == ("__debug__" : Str)) = false → ClN C (.Name x p) [x]
  | two {x y : Str} {p p2 p3 : Pos} {k : Nat} : Glo C x → (x == ("__debug__" : Str)) = false → Glo C y → (y == ("__debug__" : Str)) = false → ClN C (.Tuple [.Name x p, .Name y p2] k p3) [x, y]
theorem kin_ok {K : PySem.W.Frag} {mg : Str → Option Value} {fs xh hs : List Str} {xs : List Kin} {c : Str} {b : Bool} (hx : HXs K mg fs xh xs) (hh : hs.all (fun h => xh.contains h) = true) (e : kinOf xs hs c = some b) :
    ∃ k A, k ∈ xs ∧ k.1 = c ∧ XC K mg fs xh k A ∧ b = hs.any fun h => k.2.contains h := by
  unfold kinOf at e
  cases q : xs.find? fun k => k.1 == c with
  | none => rw [q] at e; cases e
  | some k =>
    rw [q] at e
    have hm := List.mem_of_find?_eq_some q
    have hc := List.find?_some q
    obtain ⟨A, T⟩ := hx k hm
    exact ⟨k, A, hm, eq_of_beq hc, T, (Option.some.inj e).symm⟩
/-- the clause's classes, and the test's answer -/
theorem clt_of {C : Ctx} {X : Cx} {fs xh hs : List Str} {k : Kin} {A : Addr} {t : Expr} (ok : CtxOk C X) (hc : ClN C t hs) (hh : hs.all (fun h => xh.contains h) = true) (T : XC C.K C.mg fs xh k A) :
    ∃ cs, ClT X t cs ∧ exmL X.K (.ref A) cs = some (hs.any fun h => k.2.contains h) := by
  cases hc with
  | @one x p g1 d1 =>
    obtain ⟨B, hB, e⟩ := T.ex x (by simpa using hh)
    refine ⟨[.ref B], .one ⟨ok.glo g1, d1, .inl (by rw [ok.mg]; exact hB)⟩, ?_⟩
    show PySem.W.exmOne X.K (.ref A) (.ref B) = _
    rw [ok.K, e]
    simp
  | @two x y p p2 p3 kk g1 d1 g2 d2 =>
    have h2 : xh.contains x = true ∧ xh.contains y = true := by simpa using hh
    obtain ⟨B, hB, e⟩ := T.ex x (by simpa using h2.1)
    obtain ⟨B2, hB2, e2⟩ := T.ex y (by simpa using h2.2)
    refine ⟨[.ref B, .ref B2], .two ⟨ok.glo g1, d1, .inl (by rw [ok.mg]; exact hB)⟩ ⟨ok.glo g2, d2, .inl (by rw [ok.mg]; exact hB2)⟩, ?_⟩
    show PySem.W.exmAny X.K (.ref A) [.ref B, .ref B2] = _
    unfold PySem.W.exmAny PySem.W.exmAny PySem.W.exmAny
    rw [ok.K, e, e2]
    simp
end DL

/-! DL35: a lambda handed to a def that asks it within try: what it hands back, or the exception's own telling. -/
namespace DL
open PySem PySem.Spec PyProof.Rows L2 TL
set_option autoImplicit false

/-- a lambda is made: the table of its maker tells its code from now on -/
theorem lam3 {X : Cx} {pins : List (Addr × Obj)} {σ : L2.St} {H : Hp} {s : Shared} {c P : Addr} {ps : Array Value} {params : Arguments} {body : Expr} {scope : Scope} {pos : Pos} {E Q : Value → Shared → Prop}
    (I : L2.Inv X pins σ H s) (TB : LamX.TabB X.base X.mg c P) (hcode : X.env.code = .ref c) (hP : H P = some (.tbl ps)) (ht : TriplesOk ps.toList)
    (ha : ∀ (p : Pos) (cv : Value), codeAmong p ps.toList = some cv → ∃ b, cv = .ref b ∧ H b = some (LamX.CodeO b (X.env.qual ++ "<lambda>"))) (hdef : defaultsOf params X.env = ([], [])) (hfree : ∀ y ∈ scope.names, y.2 = .free → ∃ b, X.env.cells.lookup y.1 = some b)
    (h : ∀ (f b : Addr) (pm ctv : Value) (H1 : Hp) (s1 : Shared), L2.Inv X pins σ H1 s1 →
      (H1 = H ∨ ∃ ps1 : Array Value, H b = none ∧ TriplesOk ps1.toList ∧ (∀ (p : Pos) (cv : Value), codeAmong p ps1.toList = some cv → codeAmong p ps.toList = some cv ∨ cv = .ref b) ∧ H1 = upd (upd H P (.tbl ps1)) b (LamX.CodeO b (X.env.qual ++ "<lambda>"))) →
      s1.heap.get? f = some (PySem.W.kla_obj "<lambda>" (X.env.qual ++ "<lambda>") params body scope (cloFrom X.env.cells scope.names []) pm b ctv) → H1 f = none → f ∉ frs X.stack → H1 b = some (LamX.CodeO b (X.env.qual ++ "<lambda>")) → Q (.ref f) s1) :
    wpAny (model X.prog X.w) X.A (eval (.Lambda params body scope pos) X.env) Q E s := by
  refine PySem.W.kla_eval hdef ?_
  have bP := TB.bm.keeps I.bk
  have hP2 : s.heap.get? P = some { cls := .none, data := .fields ps } := I.hok P _ hP
  have nofr : ∀ f, s.heap.objs.size ≤ f → f ∉ frs X.stack := fun f hf z =>
    (List.mem_cons.mp (I.stkSub _ z)).elim (fun e => by
      have hlt := I.lt
      rw [← e] at hlt
      exact absurd (Nat.lt_of_lt_of_le hlt hf) (Nat.lt_irrefl _)) (I.nofs hf)
  cases hc : codeAmong pos ps.toList with
  | some cv =>
    obtain ⟨b, rfl, hb⟩ := ha pos cv hc
    refine PySem.W.kla_makeFunctionHit (mg := X.mg) (c := c) (P := P) (ps := ps) (closure_ok hfree) I.ok.glob (I.mod.glob.keeps I.bk) hcode (TB.code.keeps I.bk) hP2 ht hc bP fun ctv h2 tk hx hsz => ?_
    have I2 := I.kept (t' := tk) (h' := h2.push (PySem.W.kla_obj "<lambda>" (X.env.qual ++ "<lambda>") params body scope (cloFrom X.env.cells scope.names []) ((X.mg "__name__").getD .none) b ctv)) fun b o e => Heap.get?_push_of_some _ (hx b o e)
    exact h h2.objs.size b _ ctv H _ I2 (.inl rfl) (Heap.get?_push_size _ rfl) (I.hok.fresh hsz) (nofr _ hsz) hb
  | none =>
    refine PySem.W.kla_makeFunction (mg := X.mg) (c := c) (P := P) (ps := ps) (closure_ok hfree) I.ok.glob (I.mod.glob.keeps I.bk) hcode (TB.code.keeps I.bk) hP2 ht hc TB.gP bP fun b ctv h2 tk hx hge hlt hrec htb => ?_
    obtain ⟨b2, oc, vs, t, e2, hoc, hd, hv⟩ := hrec
    cases e2
    have hsz : s.heap.objs.size ≤ h2.objs.size := Nat.le_of_lt (Nat.lt_of_le_of_lt hge hlt)
    have nB : H b = none := I.hok.fresh hge
    have eL : (ps ++ #[rawInt pos.line, rawInt pos.col, .ref b]).toList = ps.toList ++ [rawInt pos.line, rawInt pos.col, .ref b] := by simp
    have I2 := LamX.inv_table (t' := tk) (more := #[rawInt pos.line, rawInt pos.col, .ref b]) (q := X.env.qual ++ "<lambda>") (h' := h2.push (PySem.W.kla_obj "<lambda>" (X.env.qual ++ "<lambda>") params body scope (cloFrom X.env.cells scope.names []) ((X.mg "__name__").getD .none) b ctv)) I hP
      (fun a o hb e => Heap.get?_push_of_some _ (hx a o hb e)) (Heap.get?_push_of_some _ htb) hge ⟨oc, vs, t, Heap.get?_push_of_some _ hoc, hd, hv⟩
    refine h h2.objs.size b _ ctv _ _ I2 (.inr ⟨_, nB, by rw [eL]; exact PySem.TriplesOk_snoc _ _ _ _ ht, fun p cv hcv => ?_, rfl⟩) (Heap.get?_push_size _ rfl) ?_ (nofr _ hsz) upd_same
    · rw [eL] at hcv
      exact LamX.among_app _ ht hcv
    · rw [upd_ne (Nat.ne_of_gt hlt), upd_ne (Nat.ne_of_gt (Nat.lt_of_lt_of_le (Heap.lt_size hP2) hsz))]
      exact I.hok.fresh hsz

/-! ### the maker's table among the cells -/
theorem tab_step {g : GG} {H0 F H : Hp} {ρ : List Addr} {δ : DEnv} {st : Sto} {σ : L2.St} {n : Nat} {x q : Str} {P b : Addr} {ps ps1 : Array Value} (S : St0 g H0 F ρ δ st σ H) (hn : st[n]? = some (some (.tbl x q))) (hr : ρ[n]? = some P) (ta : TabA g x P) (hP : H P = some (.tbl ps)) (hq : TabQ F ps q)
    (nb : H b = none) (ht : TriplesOk ps1.toList) (hc : ∀ (p : Pos) (cv : Value), codeAmong p ps1.toList = some cv → codeAmong p ps.toList = some cv ∨ cv = .ref b) :
    After ρ F H ρ (upd F b (LamX.CodeO b q)) (upd (upd H P (.tbl ps1)) b (LamX.CodeO b q)) ∧ St0 g H0 (upd F b (LamX.CodeO b q)) ρ δ st σ (upd (upd H P (.tbl ps1)) b (LamX.CodeO b q)) := by
  have nbF : F b = none := S.fs.free nb
  have nPb : P ≠ b := ne_of_none hP nb
  have hm : P ∈ ρ := List.mem_of_getElem? hr
  obtain ⟨P2, hr2, nPF, _⟩ := S.sto.live n _ hn
  rw [hr] at hr2
  cases hr2
  have ff : Same F (upd F b (LamX.CodeO b q)) := fun a o e => by rw [upd_ne (ne_of_none e nbF)]; exact e
  have A : After ρ F H ρ (upd F b (LamX.CodeO b q)) (upd (upd H P (.tbl ps1)) b (LamX.CodeO b q)) := by
    refine ⟨ff, fun a o e1 e2 => ?_, ⟨[], by simp, fun _ z => absurd z (by simp)⟩, fun a o e n => ?_⟩
    · by_cases z : a = b
      · subst z; exact .inl nb
      · rw [upd_ne z, e2] at e1; cases e1
    · rw [upd_ne (ne_of_none e nb), upd_ne (fun z => n (by rw [z]; exact hm))]
      exact e
  have fs : Same (upd F b (LamX.CodeO b q)) (upd (upd H P (.tbl ps1)) b (LamX.CodeO b q)) := fun a o e => by
    by_cases z : a = b
    · subst z
      rw [upd_same] at e ⊢
      exact e
    · rw [upd_ne z] at e
      rw [upd_ne z, upd_ne (fun y => by rw [y, nPF] at e; cases e)]
      exact S.fs a o e
  refine ⟨A, S.later A fs ⟨S.sto.len, S.sto.nd, fun a ha => ?_, fun m c hm2 => ?_⟩⟩
  · obtain ⟨o, ho⟩ := S.sto.there a ha
    have z : a ≠ b := ne_of_none ho nb
    by_cases y : a = P
    · exact ⟨_, by rw [upd_ne z, y, upd_same]⟩
    · exact ⟨o, by rw [upd_ne z, upd_ne y]; exact ho⟩
  · obtain ⟨a, h1, h2, h3⟩ := S.sto.live m c hm2
    obtain ⟨o, ho⟩ := h3.there
    have z : a ≠ b := ne_of_none ho nb
    refine ⟨a, h1, by rw [upd_ne z]; exact h2, ?_⟩
    by_cases y : a = P
    · subst y
      have emn : m = n := by
        obtain ⟨l1, e1⟩ := List.getElem?_eq_some_iff.mp h1
        obtain ⟨l2, e2⟩ := List.getElem?_eq_some_iff.mp hr
        exact (List.getElem_inj S.sto.nd).mp (e1.trans e2.symm)
      subst emn
      rw [hn] at hm2
      cases hm2
      refine ⟨ta, ps1, by rw [upd_ne z, upd_same], ht, fun p cv hcv => ?_⟩
      rcases hc p cv hcv with k | k
      · obtain ⟨b2, e1, e2⟩ := hq.2 p cv k
        exact ⟨b2, e1, ff _ _ e2⟩
      · exact ⟨b, k, upd_same⟩
    · exact h3.kept ff ⟨[], by simp⟩ fun o e => by rw [upd_ne z, upd_ne y]; exact e
/-- a new value becomes a cell -/
theorem cell_step {g : GG} {H0 F H F1 H1 : Hp} {ρ ρ1 : List Addr} {δ : DEnv} {st st1 : Sto} {σ : L2.St} {c : Con} {v : V} (S : St0 g H0 F ρ δ st σ H) (A1 : After ρ F H ρ1 F1 H1) (S1 : St0 g H0 F1 ρ1 δ st1 σ H1) (R1 : RepR g F1 ρ1 δ σ H H1 (.ow c) v) :
    ∃ ρ2, After ρ F H ρ2 F1 H1 ∧ St0 g H0 F1 ρ2 δ (st1 ++ [some c]) σ H1 ∧ Rep g F1 ρ2 (.loc st1.length) v := by
  obtain ⟨a, rfl, e2, e3, e4, e5⟩ := R1
  obtain ⟨o, ho⟩ := e5.there
  have p : ∃ l, ρ1 ++ [a] = ρ1 ++ l := ⟨[a], rfl⟩
  have nown : ∀ (j : Nat) (c : Con) (b : Addr), δ[j]? = some (some (.ow c)) → σ[j]? = some (some (.ref b)) → b ≠ a := fun j c b h1 h2 z => by
    subst z
    obtain ⟨u, u1, a', rfl, _, _, _, k5⟩ := S.slot j _ h1
    rw [h2] at u1; cases u1
    obtain ⟨o, ho⟩ := k5.there
    rw [e4] at ho; cases ho
  refine ⟨ρ1 ++ [a], ⟨A1.ff, A1.fn, ?_, A1.hk⟩, ⟨S1.fs, S1.len, fun j s h => ?_, S1.dist, sto_snoc S1.sto e3 ho e2 e5⟩, .loc ?_⟩
  · obtain ⟨l, hl, hn⟩ := A1.pre
    refine ⟨l ++ [a], by rw [hl, List.append_assoc], fun b hb => ?_⟩
    rcases List.mem_append.mp hb with z | z
    · exact hn b z
    · obtain rfl : b = a := by simpa using z
      exact ⟨e4, fun z => e3 (A1.mem z)⟩
  · obtain ⟨u, u1, u2⟩ := S1.slot j s h
    refine ⟨u, u1, ?_⟩
    cases s with
    | fz d => exact Rep.mono (Same.refl F1) p u2
    | ow cc =>
      obtain ⟨b, rfl, k2, k3, k4, k5⟩ := u2
      refine ⟨b, rfl, k2, fun z => ?_, k4, k5.kept (Same.refl F1) p fun o q => q⟩
      rcases List.mem_append.mp z with z | z
      · exact k3 z
      · exact nown j cc b h u1 (by simpa using z)
  · rw [← S1.sto.len, List.getElem?_append_right (Nat.le_refl _)]
    simp

/-! ### what is handed back -/
def tabAt (st : Sto) (n : Nat) (x q : Str) : Bool := match st[n]? with
  | some (some (.tbl y r)) => decide (y = x ∧ r = q)
  | _ => false
def toldR (tl : List Nat) (cell : Bool) : Rv → M Rv
  | .fz d => ret (.fz (.tup [.str tl, d]))
  | .ow c => fun st => if cell then some (.ok (.fz (.tup [.str tl, .loc st.length])), st ++ [some c]) else some (.ok (.fz (.tup [.str tl, c.fz])), st)
  | .vw _ => fail
def toldX (xs : List Kin) (hs : List Str) (gh : GS) (x : Exn) : M Rv := fun st => match kinOf xs hs x.cls with
  | some true => match gh [none, some (.fz (.exc x.cls x.fs))] st with
    | some (.rt (.fz d), st2) => some (.ok (.fz d), st2)
    | _ => none
  | _ => none
def gTold (n : Nat) (x q : Str) (tl : List Nat) (cell : Bool) (xs : List Kin) (hs : List Str) (gh : GS) (ge : DEnv → M Rv) : DEnv → M Rv := fun δ st => if tabAt st n x q then match ge δ st with
    | some (.ok r, st1) => toldR tl cell r st1
    | some (.ex e, st1) => toldX xs hs gh e st1
    | none => none
  else none
theorem tabAt_eq {st : Sto} {n : Nat} {x q : Str} (h : tabAt st n x q = true) : st[n]? = some (some (.tbl x q)) := by
  unfold tabAt at h
  split at h
  · rename_i y r e
    obtain ⟨e1, e2⟩ := of_decide_eq_true h
    rw [e, e1, e2]
  · cases h
/-- the def that asks: its text, its clause's reading -/
structure Told (P : Program) (w : World) (K : PySem.W.Frag) (mg : Str → Option Value) (base : Heap) (k : Nat) (x : Str) (tl : List Nat) (fs xh : List Str) (xs : List Kin) (hs : List Str) (gh : GS) : Prop where
  ex : ∃ (stm : Stmt) (N : List Str) (a n z : Str) (j kk : Nat) (t : Expr) (b₀ : Stmt) (suite : List Stmt) (p1 p2 p3 p4 p5 p6 p7 : Pos), HD K mg x stm ∧ FnScope N [a] (defScope stm) ∧ N = [a, n] ∧ Vis (defScope stm) a ∧ (defScope stm).names.lookup n = some .local ∧ (a == ("__debug__" : Str)) = false ∧ (a == ("__classdict__" : Str)) = false ∧ tl = TL.tl z ∧
    defBody stm = [.Try [.Return (some (.Tuple [.Constant (.str z) j p1, .Call (.Name a p2) [] [] p3] kk p4)) p5] [.ExceptHandler (some t) (some n) (b₀ :: suite) p6] [] [] p7] ∧ HXs K mg fs xh xs ∧ hs.all (fun h => xh.contains h) = true ∧ (∀ h ∈ hs, ∃ B, mg h = some (.ref B)) ∧
    (∀ (kV doc pm : Value) (an : Option Addr) (cdv ct : Value) (us : List Value), us.length = 1 → bindArgs (PySem.W.fnOf x x (defArgs stm) (defBody stm) (defScope stm) .none kV doc pm an cdv ct) ⟨us, []⟩ = pure ([a].zip us)) ∧
    ClN ⟨P, w, K, mg, base, N, defScope stm, k, fun _ => true, true, none⟩ t hs ∧ DSs ⟨P, w, K, mg, base, N, defScope stm, k, fun _ => true, true, none⟩ (b₀ :: suite) gh
def Ctx.lam (C : Ctx) (scope : Scope) (k : Nat) : Ctx := { C with sc := scope, top := (fun _ => false), hot := false, me := none, k := k }
theorem pss_len {X : Cx} {ss : List Stmt} {t : TS} (h : PSs X ss t) : PSs X ss (fun D σ H => σ.length = X.N.length → t D σ H) := ⟨fun pins s σ H D I q => h.run pins s σ H D I (q I.len)⟩
end DL

/-! DL36: x(lambda: e) where x asks within try. -/
namespace DL
open PySem PySem.Spec PyProof.Rows L2 TL
set_option autoImplicit false

theorem clt_all {C : Ctx} {X : Cx} {fs xh hs : List Str} {t : Expr} (ok : CtxOk C X) (hc : ClN C t hs) (hh : hs.all (fun h => xh.contains h) = true) (hB : ∀ h ∈ hs, ∃ B, C.mg h = some (.ref B)) :
    ∃ cs, ClT X t cs ∧ ∀ k A, XC C.K C.mg fs xh k A → exmL X.K (.ref A) cs = some (hs.any fun h => k.2.contains h) := by
  cases hc with
  | @one x p g1 d1 =>
    obtain ⟨B, hB1⟩ := hB x (by simp)
    refine ⟨[.ref B], .one ⟨ok.glo g1, d1, .inl (by rw [ok.mg]; exact hB1)⟩, fun k A T => ?_⟩
    obtain ⟨B', h1, e⟩ := T.ex x (by simpa using hh)
    rw [hB1] at h1
    cases h1
    show PySem.W.exmOne X.K (.ref A) (.ref B) = _
    rw [ok.K, e]
    simp
  | @two x y p p2 p3 kk g1 d1 g2 d2 =>
    have h2 : xh.contains x = true ∧ xh.contains y = true := by simpa using hh
    obtain ⟨B, hB1⟩ := hB x (by simp)
    obtain ⟨D, hD1⟩ := hB y (by simp)
    refine ⟨[.ref B, .ref D], .two ⟨ok.glo g1, d1, .inl (by rw [ok.mg]; exact hB1)⟩ ⟨ok.glo g2, d2, .inl (by rw [ok.mg]; exact hD1)⟩, fun k A T => ?_⟩
    obtain ⟨B', h1, e⟩ := T.ex x (by simpa using h2.1)
    obtain ⟨D', h3, e3⟩ := T.ex y (by simpa using h2.2)
    rw [hB1] at h1
    cases h1
    rw [hD1] at h3
    cases h3
    show PySem.W.exmAny X.K (.ref A) [.ref B, .ref D] = _
    unfold PySem.W.exmAny PySem.W.exmAny PySem.W.exmAny
    rw [ok.K, e, e3]
    simp
theorem takesF {X : Cx} : Takes X (fun _ _ _ _ => False) := fun _ _ h => by
  obtain ⟨_, _, _, _, _, _, _, _, _, _, _, _, _, _, _, _, z⟩ := h
  exact z.elim
section
variable {C : Ctx} {x dn q : Str} {p lpos pos : Pos} {params : Arguments} {body : Expr} {scope : Scope} {tl : List Nat} {fs xh hs : List Str} {xs : List Kin} {gh : GS} {ge : DEnv → M Rv} {k kb n : Nat} {cell : Bool}
theorem de_told (hT : Told C.P C.w C.K C.mg C.base k x tl fs xh xs hs gh) (le : k + 1 ≤ C.k) (le2 : kb + 2 ≤ C.k) (hme : C.me = some (dn, q)) (hg : Glo C x) (hl : LamX.lamSB C.sc scope = true) (hd : ∀ env, defaultsOf params env = ([], []))
    (hbind : ∀ (q : Str) (cl : List (Str × Addr)) (pm cv ctv : Value), bindArgs (PySem.W.kla_fn "<lambda>" q params body scope cl pm cv ctv) ⟨[], []⟩ = pure []) (hb : DE (C.lam scope kb) body ge) (hh : C.hot = false := by rfl) (hdb : (x == ("__debug__" : Str)) = false := by decide) :
    DE C (.Call (.Name x p) [.Lambda params body scope lpos] [] pos) (gTold n dn q tl cell xs hs gh ge) := fun X W ok tk => by
  obtain ⟨stm, N, a, nm, z, j, kk, t, b₀, suite, p1, p2, p3, p4, p5, p6, p7, ⟨fa, fd, Fn, hm⟩, Sg, eN, hva, hln, d1, d2, etl, eb, hxs, hhx, hcs, hbd, hcl, hgh⟩ := hT.ex
  subst eN
  obtain ⟨c, P, m1, m2, m3, m4⟩ := ok.me dn q hme
  refine ⟨fun pins s σ H Q I h => ?_⟩
  obtain ⟨H0, F, ρ, δ, st, S, Po⟩ := h
  unfold gTold at Po
  split at Po
  rotate_left
  · exact Po.elim
  rename_i htab
  have hn := tabAt_eq htab
  obtain ⟨P2, hr, nPF, ⟨c2, tc⟩, ps, hP, hq⟩ := S.sto.live n _ hn
  have tc' : PySem.W.tabIn X.K dn = some (c2, P2) := tc
  rw [m1] at tc'
  cases tc'
  subst m4
  have L : LamX.LamS X.env.scope scope := LamX.lamS_by (by rw [ok.sc]; exact hl)
  have hrm := ok.room hh
  have hmX : X.mg x = some (.ref fa) := by rw [ok.mg]; exact hm
  refine wpAny_Call_Name_kw (ld_glob I (ok.glo hg) hmX ?_ hdb)
  refine PySem.W.callWith_K (h₀ := X.base) I.ok.mod.kin (by rw [ok.K]; exact Fn.kp) ?_ (by rfl) (by rfl)
  show wpAny _ _ (spliced ((false, eval (.Lambda params body scope lpos) X.env) :: backTo pos (starEach [] X.env))) _ _ s
  refine Calls.spliced_cons (lam3 I m3 m2 hP hq.1 (fun p cv hcv => ?_) (hd _) (L.has I.ok) fun f b pm ctv H1 s1 I1 hH hf hfn hfr hco => ?_)
  · obtain ⟨b, e1, e2⟩ := hq.2 p cv hcv
    exact ⟨b, e1, S.fs _ _ e2⟩
  refine Calls.spliced_nil ⟨I1.kIn, ?_⟩
  obtain ⟨F1, A1, S1⟩ : ∃ F1, After ρ F H ρ F1 H1 ∧ St0 (xg X) H0 F1 ρ δ st σ H1 := by
    rcases hH with e | ⟨ps1, nb, ht1, hc1, e⟩
    · subst e
      exact ⟨F, .refl, S⟩
    · subst e
      obtain ⟨a1, a2⟩ := tab_step S hn hr ⟨c, m1⟩ hP hq nb ht1 hc1
      exact ⟨_, a1, a2⟩
  have Po1 := Po.later A1
  have bnd := Fn.bindsN (ps := [a]) hbd
  obtain ⟨oc, od, dV, kV, doc, pm0, an, cdv, ct, osl, efd, lk, hcd, _, _⟩ := Fn.ex
  subst efd
  have rc : codeAny (model X.prog X.w) X.A (.call (.ref fa) ⟨[.ref f], []⟩) (CR C8.CX0 X.stack X.prog X.w H1 s1 Q C8.E0) s1 := by
    have hbnd := bnd s1 [.ref f] (by rw [← ok.K]; exact I1.kIn) rfl
    refine LamX.run_ofS (k := C.k - 1) (N := [a, nm]) (ps := [a]) (us := [.ref f]) (vs := [.ref f]) (by rw [ok.K]; exact lk) (by rw [ok.K]; exact hcd) Sg (hrm.mono (by omega)) I1.env0 hbnd (.cons rfl .nil) rfl fun hr2 => ?_
    rw [eb]
    have okS : ∀ (a2 : Addr) (pn : List (Addr × Obj)), CtxOk ⟨C.P, C.w, C.K, C.mg, C.base, [a, nm], defScope stm, k, fun _ => true, true, none⟩ ((cxOf C8.CX0 X.prog X.w X.K X.mg X.base [a, nm] x (defScope stm) fa cdv X.A X.stack s1 H1 C8.E0).nox.suite a2 pn) := fun a2 pn =>
      ⟨ok.prog, ok.w, ok.K, ok.mg, ok.base, rfl, rfl, (fun z => nomatch z), (fun z => nomatch z), (by have := hr2.dp; show (X.A.deeper (envOfC x (defScope stm) s1.heap.objs.size fa cdv)).depth + 3 * k + 5 < recursionLimit; omega), (by have := hr2.un; show (X.A.deeper (envOfC x (defScope stm) s1.heap.objs.size fa cdv)).units + 16 * k + 200 < cLine; omega), PassesOwn.never, Sg.nd, fun _ _ => rfl, fun _ _ z => nomatch z⟩
    obtain ⟨cs, hclS, hex⟩ := clt_all (fs := fs) (okS 0 []) hcl hhx hcs
    have hclZ : ClT (cxOf C8.CX0 X.prog X.w X.K X.mg X.base [a, nm] x (defScope stm) fa cdv X.A X.stack s1 H1 C8.E0).nox t cs := by
      cases hclS with
      | one h1 => exact .one h1
      | two h1 h2 => exact .two h1 h2
    refine ⟨_, (pss_one (ps_try_kin (X := (cxOf C8.CX0 X.prog X.w X.K X.mg X.base [a, nm] x (defScope stm) fa cdv X.A X.stack s1 H1 C8.E0).nox) (i := 1) (Wout := fun _ _ _ _ => False)
      (tb := fun W D σZ HZ => ∃ Ech : XK, (∀ cls d σ' H', Ech cls d H' → W cls d σ' H') ∧ σZ[0]? = some (some (.ref f)) ∧ HZ b = some (LamX.CodeO b (X.env.qual ++ "<lambda>")) ∧ rdE (xg X) (fun cls d _ H => Ech cls d H) ge σ HZ (fun v H2 => [V.str z, v].length ≤ sizeLine ∧ ∀ p, H2 p = none → D.rt (.ref p) (upd H2 p (.tup [V.str z, v]))))
      (ts := fun D σ H => σ.length = [a, nm].length → rdS (xg X) (fun _ _ _ _ => False) gh D σ H)
      rfl rfl rfl Sg.nd rfl hln hclZ takesF (fun W2 pn xe tk2 _ => ?_) (fun a2 pn => pss_len (hgh _ _ (okS a2 pn) takesF)))).nox, ?_⟩
    · refine ⟨fun pins2 s2 σ2 H2 D I2 h2 => ?_⟩
      obtain ⟨Ech, hW, h1, h2, h3⟩ := h2
      have hp := LamX.pe_act (CXg := C8.CX0) (Eg := C8.E0) (Ng := [a, nm]) (qg := x) (sg := defScope stm) (g := fa) (cdg := cdv) (i := 0) (k := kb) (p1 := p2) (p2 := p3) (tb := rdE (xg X) (fun cls d _ H => Ech cls d H) ge) I1 L hf hfn hfr (hbind _ _ _ _ _) tk2 hW (hr2.mono (by omega))
        (fun A outer s3 H3 hr3 => hb _ (fun cls d _ H => Ech cls d H) ⟨ok.prog, ok.w, ok.K, ok.mg, ok.base, ok.N, rfl, fun _ => rfl, fun _ => hr3, hr3.dp, hr3.un, passes_of rfl, ok.nd, (fun _ z => nomatch z), (fun _ _ z => nomatch z)⟩ (takes_of rfl rfl rfl (E := Ech) rfl)) rfl hva d1 d2
      exact (pss_one (ps_ret (pos := p5) (pe_tup (pa_cons pe_str (pa_cons hp pa_nil))))).run pins2 s2 σ2 H2 D I2 ⟨h1, h2, h3⟩
    · refine ⟨fun cls d H2 => ∃ y ρ2 F2 st2, After ρ F1 H1 ρ2 F2 H2 ∧ StoS (xg X) F2 ρ2 st2 H2 ∧ RepX (xg X) F2 ρ2 H2 y cls d ∧ PostE (xg X) W H0 F1 ρ δ σ H1 (toldX xs hs gh y st2) Q, fun cls d σ2 H2 hE => ?_, rfl, hco, H0, F1, ρ, δ, st, S1, ?_⟩
      · obtain ⟨y, ρ2, F2, st2, A2, S2, ⟨B, dx, fvs, g1, e1, e2, g2, g3, g4⟩, P2⟩ := hE
        subst e1
        subst e2
        unfold toldX at P2
        cases ek : kinOf xs hs y.cls with
        | none => rw [ek] at P2; exact P2.elim
        | some bb =>
          rw [ek] at P2
          cases bb with
          | false => exact P2.elim
          | true =>
            obtain ⟨kn, A, hkm, hkc, T, hbb⟩ := kin_ok hxs hhx ek
            have gl := T.gl
            have g1' : C.mg y.cls = some (.ref B) := by rw [← ok.mg]; exact g1
            rw [hkc, g1'] at gl
            cases gl
            refine ⟨true, by rw [hex kn _ T, ← hbb], fun _ => ⟨dx, rfl, fun a2 na hlen => ?_⟩, fun z => nomatch z⟩
            have e := ext_frz (o := ExZ (.ref B) dx a2) S2.1 na
            have hl2 : 1 < σ2.length := by rw [List.length_set] at hlen; rw [hlen]; simp
            have slotX : Rep (xg X) (upd F2 a2 (ExZ (.ref B) dx a2)) ρ2 (.exc y.cls y.fs) (.ref a2) :=
              .exc g1 upd_same (e.ff _ _ g2) g3 (g4.mono e.ff ⟨[], (List.append_nil ρ2).symm⟩)
            refine ⟨⟨_, _, ρ2, _, ρ2⟩, _, ρ2, [none, some (.fz (.exc y.cls y.fs))], st2, ⟨.refl, Same.refl _, ⟨[], (List.append_nil ρ2).symm⟩⟩, ⟨e.fs, hlen, fun i sv hi => ?_, fun i j b0 ci cj h1 _ _ _ => ?_, S2.2.ext e⟩, ?_⟩
            · match i, hi with
              | 0, hi => cases hi
              | 1, hi =>
                cases hi
                exact ⟨.ref a2, List.getElem?_set_self hl2, slotX⟩
              | i + 2, hi => cases hi
            · match i, h1 with
              | 0, h1 => cases h1
              | 1, h1 => cases h1
              | i + 2, h1 => cases h1
            · match eg : gh [none, some (.fz (.exc y.cls y.fs))] st2, P2 with
              | none, P2 => exact P2.elim
              | some (.nx _, _), P2 => exact P2.elim
              | some (.bk _, _), P2 => exact P2.elim
              | some (.ct _, _), P2 => exact P2.elim
              | some (.ex _ _, _), P2 => exact P2.elim
              | some (.rt (.ow _), _), P2 => exact P2.elim
              | some (.rt (.vw _), _), P2 => exact P2.elim
              | some (.rt (.fz dd), st3), P2 =>
                intro v ρ3 F3 H3 A3 S3 R3
                have A4 := (A2.trans e.after).trans A3.a
                exact P2 v ρ3 F3 H3 A4 (S1.after A4 S3) R3
      · have hz : [V.str z, V.non].length ≤ sizeLine := by
          rw [sizeLine_eq]
          exact (by decide : 2 ≤ 16777216)
        match eg : ge δ st, Po1 with
        | none, Po1 => exact Po1.elim
        | some (.ex y, st2), Po1 =>
          exact fun c d ρ2 F2 H2 A2 S2 R2 => ⟨y, ρ2, F2, st2, A2, ⟨S2.fs, S2.sto⟩, R2, Po1⟩
        | some (.ok r, st2), Po1 =>
          intro v ρ2 F2 H2 A2 S2 R2
          refine ⟨hz, fun p np => ?_⟩
          subst etl
          cases r with
          | vw i => exact Po1.elim
          | fz dd => exact new_tup (PostE.later Po1 A2) S2 (.cons (rep_str z) (.cons R2 .nil)) p np
          | ow cc =>
            change PostE _ _ _ _ _ _ _ _ (if cell = true then _ else _) _ at Po1
            cases cell with
            | true =>
              obtain ⟨ρ3, A3, S3, R3⟩ := cell_step S1 A2 S2 R2
              exact new_tup (PostE.later Po1 A3) S3 (.cons (rep_str z) (.cons R3 .nil)) p np
            | false =>
              obtain ⟨F3, _, A3, S3, R3⟩ := frz_new S1 A2 S2 R2
              exact new_tup (PostE.later Po1 A3) S3 (.cons (rep_str z) (.cons R3 .nil)) p np
  refine wpAny_call (codeAny_mono rc fun r s2 hq => ?_)
  cases r with
  | error e => exact (show False from hq).elim
  | ok fl =>
    cases fl with
    | ret u => exact I1.after hq
    | next => exact hq.elim
    | brk => exact hq.elim
    | cont => exact hq.elim
end
end DL

/-! DL37: a law that makes lambdas: its table is the first cell. -/
namespace DL
open PySem PySem.Spec PyProof.Rows L2 TL
set_option autoImplicit false

/-- x's table is told of, and is not among what is written -/
def lamB (K : PySem.W.Frag) (x : Str) : Bool := match PySem.W.tabIn K x with
  | some (_, P) => (K.lookup P).isNone
  | none => false
theorem lamB_ok {K : PySem.W.Frag} {x : Str} (h : lamB K x = true) : ∃ c P, PySem.W.tabIn K x = some (c, P) ∧ K.lookup P = none := by
  unfold lamB at h
  split at h
  · rename_i c P e
    exact ⟨c, P, e, by simpa using h⟩
  · cases h
theorem walkWT {l : PySem.W.OpenLaw} {n k : Nat} {q : Program} {loose : List Str} {XP : (Str → Option Value) → Heap → Prop} {YP : World → Heap → Prop} {d : DefRec} {x : Str}
    (hn : l.most = some n) (hn2 : n ≤ sizeLine) (hdf : d.params.defaults = []) (hr : Room k callerA) (hrec : (recsOf q).find? (fun e => e.name == d.name) = some d)
    (G : ∀ (w : World) (mg : Str → Option Value) (fa : Addr) (h : Heap), YP w h → h.Ns mainGlobals mg → mg d.name = some (.ref fa) →
      ∃ (K : PySem.W.Frag) (fd : FuncData) (sp : Sp) (c P : Addr), K.In h ∧ (∀ (s : Shared) (u : Value), BindsTo s fd ⟨[u], []⟩ [(x, u)]) ∧ PySem.W.tabIn K d.name = some (c, P) ∧ K.lookup P = none ∧
        (∀ (H : Hp) (a : Addr) (ns : List Int), ns.length ≤ n → H P = some (.tbl #[]) → SqL K H a (ns.map V.int) → sp [.ref a] H (fun v _ => v = .bl true) fun _ _ _ => False) ∧
        ∀ base : Heap, K.In base → base.Ns mainGlobals mg → LamX.TabB base mg c P → FnOk l.prog w K mg base (L2.CX l.prog w) k fa fd [x] sp) :
    PySem.W.WalkO q loose XP YP l.row.toRowW d [] (fun f vs => PySem.call f vs) := by
  refine Att.attach_callB hn hdf fun w s₀ s₁ mg mb fa o pm cd doc a vs ns T Y ho hd hcd hmg hobj hints hlen hbits hg => ?_
  obtain ⟨K, fd, sp, c, P, h1, h2, h3, h4, h5, h6⟩ := G w mg fa _ Y T.T.g hmg
  obtain ⟨t1, t2⟩ := PySem.W.tab_of T.T h1 hrec h3
  exact LamX.law_callTs (cs := [(c, P)]) h1 T.T.g T.T.b T.T.builtins T.T.nolimit hg (fun p hp => by obtain rfl : p = (c, P) := by simpa using hp
                                                                                                    exact t2)
    (fun p hp => by obtain rfl : p = (c, P) := by simpa using hp
                    exact h4)
    (fun p hp => by obtain rfl : p = (c, P) := by simpa using hp
                    exact t1)
    T.T.bmain hobj hints (Nat.le_trans hlen hn2) hr (fun base b1 b2 b3 => h6 base b1 b2 (b3 (c, P) (by simp))) h2 (fun H hH hS => h5 H a ns hlen (hH (c, P) (by simp)) hS) fun H e s' z => CX_none H s₁ e s' z
theorem law_spT {K : PySem.W.Frag} {mg : Str → Option Value} {f : List D → M Rv} {x q : Str} {c P : Addr} (ht : PySem.W.tabIn K x = some (c, P)) (hf : ∀ ns : List Int, ns.length ≤ 63 → ∃ st', f [.rol (ns.map D.int)] [some (.tbl x q)] = some (.ok (.fz (.bl true)), st')) :
    ∀ (H : Hp) (a : Addr) (ns : List Int), ns.length ≤ 63 → H P = some (.tbl #[]) → SqL K H a (ns.map V.int) → spD ⟨K, mg⟩ 1 f [.ref a] H (fun v _ => v = .bl true) fun _ _ _ => False := fun H a ns hl hP hS => by
  obtain ⟨st', e⟩ := hf ns hl
  have eP : (if P = P then none else H P) = none := if_pos rfl
  have hF : Same (fun b => if b = P then none else H b) H := fun b o h => by
    dsimp only at h
    split at h
    · cases h
    · exact h
  have ha : ∀ o, H a = some o → (∀ ps, o ≠ .tbl ps) → (fun b => if b = P then none else H b) a = some o := fun o h n => by
    dsimp only
    rw [if_neg]
    · exact h
    · intro z
      rw [z, hP] at h
      exact n _ (Option.some.inj h).symm
  have hS2 : SqL K (fun b => if b = P then none else H b) a (ns.map V.int) := by
    rcases hS with (h | ⟨o, h⟩) | h
    · exact .inl (.inl (ha _ h fun ps z => by cases z))
    · exact .inl (.inr ⟨o, ha _ h fun ps z => by cases z⟩)
    · exact .inr h
  refine ⟨fun b => if b = P then none else H b, [P], [.rol (ns.map D.int)], [some (.tbl x q)], ⟨hF, rfl, (by simp : [P].Nodup), fun b hb => ?_, fun n cc h => ?_⟩, .cons (.rol hS2 (.of_ints ns)) .nil, rfl, ?_⟩
  · obtain rfl : b = P := by simpa using hb
    exact ⟨_, hP⟩
  · match n, h with
    | 0, h =>
      cases h
      refine ⟨P, rfl, eP, ⟨c, ht⟩, #[], hP, True.intro, fun pos cv hc => ?_⟩
      have z : codeAmong pos [] = some cv := hc
      simp [codeAmong] at z
    | n + 1, h => simp at h
  · rw [e]
    exact fun v ρ' F' H' A S R => Rep.bl_v R
/-- the law itself: it knows its own code -/
theorem fnokL {P : Program} {w : World} {K : PySem.W.Frag} {mg : Str → Option Value} {base : Heap} {k : Nat} {x : Str} {stm : Stmt} {fa : Addr} {fd : FuncData} {N ps : List Str} {gs : GS} {c T : Addr}
    (Fn : FnP K x stm fa fd) (hm : mg x = some (.ref fa)) (Sc : FnScope N ps (defScope stm)) (KX : K.In base) (G : base.Ns mainGlobals mg) (ht : PySem.W.tabIn K x = some (c, T)) (TB : LamX.TabB base mg c T)
    (hb : DSs ⟨P, w, K, mg, base, N, defScope stm, k, fun _ => true, false, some (x, x ++ ".<locals>." ++ "<lambda>")⟩ (defBody stm) gs) :
    FnOk P w K mg base (L2.CX P w) (k + 1) fa fd ps (spD ⟨K, mg⟩ ps.length (runB N gs)) := by
  obtain ⟨oc, od, dV, kV, doc, pm, an, cdv, ct, osl, efd, lk, hcd, _, _⟩ := Fn.ex
  have ecd : cdv = .ref c := by
    have e := PySem.W.law_code KX G ht hm (KX _ _ lk) (by rw [efd])
    exact e
  subst efd
  refine fn_of lk hcd Sc (fun vs H Q E h => spD_len h) fun A outer s H vs Q E hr h => ?_
  obtain ⟨F, ρ, ds, st, S, R, hl, Po⟩ := h
  have ok : CtxOk ⟨P, w, K, mg, base, N, defScope stm, k, fun _ => true, false, some (x, x ++ ".<locals>." ++ "<lambda>")⟩ (cxOf (L2.CX P w) P w K mg base N x (defScope stm) fa cdv A outer s H E) :=
    ⟨rfl, rfl, rfl, rfl, rfl, rfl, rfl, fun _ => rfl, fun _ => hr, hr.dp, hr.un, passes_of rfl, Sc.nd, fun _ _ => rfl, fun y q z => by
      cases z
      exact ⟨c, T, ht, ecd, TB, rfl⟩⟩
  refine ⟨_, hb _ (fun cls d _ H => E cls d H) ok (takes_of rfl rfl rfl (E := E) rfl), ?_⟩
  refine ⟨⟨H, F, ρ, F, ρ⟩, F, ρ, startD N ds, st, ⟨.refl, Same.refl F, ⟨[], by simp⟩⟩, start_ok S R, ?_⟩
  unfold runB at Po
  match e : gs (startD N ds) st, Po with
  | none, Po => exact Po
  | some (.nx δ', st'), Po => exact fun σ' ρ' F' H' A' S' => Po .non ρ' F' H' A'.a ⟨S'.fs, S'.sto⟩ .non
  | some (.rt r, st'), Po => exact fun v ρ' F' H' A' S' R' => Po v ρ' F' H' A'.a S' R'
  | some (.bk _, _), Po => exact Po.elim
  | some (.ct _, _), Po => exact Po.elim
  | some (.ex x δ', st'), Po => exact fun c d σ' ρ' F' H' A' S' R' => Po c d ρ' F' H' A'.a ⟨S'.fs, S'.sto⟩ R'
end DL

/-! DM1: the readings evaluated. -/
namespace DL
open PySem PySem.Spec PyProof.Rows L2 TL
set_option autoImplicit false
section
variable {α β : Type} {δ : DEnv} {st st' : Sto} {i j : Int} {b c : Bool} {s t : List Nat} {x y : Rv} {ds es : List D} {d e : D} {n : Nat}
@[simp] theorem ret_ap (a : α) : ret a st = some (.ok a, st) := (rfl)
@[simp] theorem fail_ap : (fail : M α) st = none := (rfl)
@[simp] theorem bnd_ret (a : α) (k : α → M β) : bnd (ret a) k = k a := (rfl)
@[simp] theorem bnd_fail (k : α → M β) : bnd fail k = fail := (rfl)
theorem bnd_ok {m : M α} {k : α → M β} {a : α} (h : m st = some (.ok a, st')) : bnd m k st = k a st' := by unfold bnd; rw [h]
@[simp] theorem opt_s {a : α} {f : α → M β} : opt (some a) f = f a := (rfl)
@[simp] theorem opt_n {f : α → M β} : opt none f = fail := (rfl)
@[simp] theorem riv_eq : riv i = ret (.fz (.int i)) := (rfl)
@[simp] theorem rbv_eq : rbv b = ret (.fz (.bl b)) := (rfl)
@[simp] theorem rsv_eq : rsv s = ret (.fz (.str s)) := (rfl)
@[simp] theorem gC_ap : gC d δ = ret (.fz d) := (rfl)
theorem gVar_fz (h : δ[n]? = some (some (.fz d))) : gVar n δ = ret (.fz d) := by unfold gVar; rw [h]
theorem gVar_ow {c : Con} (h : δ[n]? = some (some (.ow c))) : gVar n δ = ret (.vw n) := by unfold gVar; rw [h]
@[simp] theorem asI_i : (Rv.fz (.int i)).asI = some i := (rfl)
@[simp] theorem asB_b : (Rv.fz (.bl b)).asB = some b := (rfl)
@[simp] theorem asS_s : (Rv.fz (.str s)).asS = some s := (rfl)
@[simp] theorem asT_t : (Rv.fz (.tup ds)).asT = some ds := (rfl)
@[simp] theorem frz_fz : (Rv.fz d).frz = .fz d := (rfl)
@[simp] theorem frz_ow {c : Con} : (Rv.ow c).frz = .fz c.fz := (rfl)
@[simp] theorem confz_l : (Con.lst ds).fz = .lst ds := (rfl)
@[simp] theorem out_fz : (Rv.fz d).out δ = some (.fz d) := (rfl)
@[simp] theorem out_ow {c : Con} : (Rv.ow c).out δ = some (.ow c) := (rfl)
/-! ints -/
@[simp] theorem kAdd_i : kAdd δ (.fz (.int i)) (.fz (.int j)) = ret (.fz (.int (i + j))) := (rfl)
@[simp] theorem kSub_i : kSub δ (.fz (.int i)) (.fz (.int j)) = ret (.fz (.int (i - j))) := (rfl)
theorem kMul_i' : kMul δ (.fz (.int i)) (.fz (.int j)) = if mulOk i j then ret (.fz (.int (i * j))) else fail := rfl
theorem mulOk_r (h : -(2 ^ 64) < j ∧ j < 2 ^ 64) : mulOk i j = true := by
  unfold mulOk
  simp only [Bool.or_eq_true, decide_eq_true_eq]
  exact .inl (.inr h)
theorem mulOk_l (h : -(2 ^ 64) < i ∧ i < 2 ^ 64) : mulOk i j = true := by
  unfold mulOk
  simp only [Bool.or_eq_true, decide_eq_true_eq]
  exact .inl (.inl h)
@[simp] theorem kMul_i (h : mulOk i j = true) : kMul δ (.fz (.int i)) (.fz (.int j)) = ret (.fz (.int (i * j))) := by rw [kMul_i', if_pos h]
@[simp] theorem kMod_i (h : 0 < j) : kMod δ (.fz (.int i)) (.fz (.int j)) = ret (.fz (.int (i % j))) := by
  show (if 0 < j then riv (i % j) else fail) = _
  rw [if_pos h]; rfl
@[simp] theorem kDiv_i (h : divOk j = true) : kDiv δ (.fz (.int i)) (.fz (.int j)) = ret (.fz (.int (i / j))) := by
  show (if divOk j then riv (i / j) else fail) = _
  rw [if_pos h]; rfl
@[simp] theorem kPow_i (h : 0 ≤ j ∧ j ≤ 1000000 ∧ i.natAbs < 2 ^ 64) : kPow δ (.fz (.int i)) (.fz (.int j)) = ret (.fz (.int (i ^ j.toNat))) := by
  show (if 0 ≤ j ∧ j ≤ 1000000 ∧ i.natAbs < 2 ^ 64 then riv (i ^ j.toNat) else fail) = _
  rw [if_pos h]; rfl
@[simp] theorem kNeg_i : kNeg δ (.fz (.int i)) = ret (.fz (.int (-i))) := (rfl)
@[simp] theorem kLt_i : kLt δ (.fz (.int i)) (.fz (.int j)) = ret (.fz (.bl (decide (i < j)))) := (rfl)
@[simp] theorem kLe_i : kLe δ (.fz (.int i)) (.fz (.int j)) = ret (.fz (.bl (decide (i ≤ j)))) := (rfl)
@[simp] theorem kGt_i : kGt δ (.fz (.int i)) (.fz (.int j)) = ret (.fz (.bl (decide (j < i)))) := (rfl)
@[simp] theorem kGe_i : kGe δ (.fz (.int i)) (.fz (.int j)) = ret (.fz (.bl (decide (j ≤ i)))) := (rfl)
@[simp] theorem kEq_i : kEq' false δ (.fz (.int i)) (.fz (.int j)) = ret (.fz (.bl (decide (i = j)))) := by
  show rbv (xor false (decide (i = j))) = _
  rw [Bool.false_xor]; rfl
@[simp] theorem kNe_i : kEq' true δ (.fz (.int i)) (.fz (.int j)) = ret (.fz (.bl (!decide (i = j)))) := by
  show rbv (xor true (decide (i = j))) = _
  rw [Bool.true_xor]; rfl
@[simp] theorem kEq_s : kEq' false δ (.fz (.str s)) (.fz (.str t)) = ret (.fz (.bl (decide (s = t)))) := by
  show rbv (xor false (decide (s = t))) = _
  rw [Bool.false_xor]; rfl
@[simp] theorem kNe_s : kEq' true δ (.fz (.str s)) (.fz (.str t)) = ret (.fz (.bl (!decide (s = t)))) := by
  show rbv (xor true (decide (s = t))) = _
  rw [Bool.true_xor]; rfl
@[simp] theorem kLt_s : kLt δ (.fz (.str s)) (.fz (.str t)) = ret (.fz (.bl (decide (s < t)))) := (rfl)
@[simp] theorem kLe_s : kLe δ (.fz (.str s)) (.fz (.str t)) = ret (.fz (.bl (!decide (t < s)))) := (rfl)
@[simp] theorem kGt_s : kGt δ (.fz (.str s)) (.fz (.str t)) = ret (.fz (.bl (decide (t < s)))) := (rfl)
@[simp] theorem kGe_s : kGe δ (.fz (.str s)) (.fz (.str t)) = ret (.fz (.bl (!decide (s < t)))) := (rfl)
@[simp] theorem kAdd_s (h : s.length + t.length ≤ LIM) : kAdd δ (.fz (.str s)) (.fz (.str t)) = ret (.fz (.str (s ++ t))) := by
  show (if s.length + t.length ≤ LIM then rsv (s ++ t) else fail) = _
  rw [if_pos h]; rfl
@[simp] theorem kInS_1 {c : Nat} : kIn false δ (.fz (.str [c])) (.fz (.str t)) = kInS false δ (.fz (.str [c])) (.fz (.str t)) := (rfl)
/-! truth -/
@[simp] theorem tru_b : (Rv.fz (.bl b)).tru δ st = some b := (rfl)
@[simp] theorem tru_i : (Rv.fz (.int i)).tru δ st = some (i != 0) := (rfl)
@[simp] theorem tru_n : (Rv.fz .non).tru δ st = some false := (rfl)
@[simp] theorem gTru_ap {ga : DEnv → M Rv} (h : ga δ = ret (.fz (.bl b))) : gTru ga δ = ret b := by
  unfold gTru; rw [h]; rfl
/-! indexing -/
theorem atI_nat {l : List α} {k : Nat} : atI l (k : Int) = l[k]? := by
  unfold atI ixN
  rw [if_pos (by omega)]
  by_cases h : (k : Int) < l.length
  · rw [if_pos h]; simp
  · rw [if_neg h, List.getElem?_eq_none (by omega)]; rfl
@[simp] theorem kIx_s (h : s.length ≤ LIM) : kIx δ (.fz (.str s)) (.fz (.int i)) = opt (atI s i) fun c => ret (.fz (.str [c])) := by
  show (if s.length ≤ LIM then opt (atI s i) fun c => rsv [c] else fail) = _
  rw [if_pos h]; rfl
@[simp] theorem kIx_l : kIx δ (.fz (.lst ds)) (.fz (.int i)) = opt (atI ds i) fun d => ret (.fz d) := (rfl)
@[simp] theorem kIx_t : kIx δ (.fz (.tup ds)) (.fz (.int i)) = opt (atI ds i) fun d => ret (.fz d) := (rfl)
@[simp] theorem kIx_r : kIx δ (.fz (.rol ds)) (.fz (.int i)) = opt (atI ds i) fun d => ret (.fz d) := (rfl)
theorem kIx_c (h : cellAt st n = some (.lst ds)) : kIx δ (.fz (.loc n)) (.fz (.int i)) st = opt (atI ds i) (fun d => ret (.fz d)) st := by
  show kIxQ δ (.fz (.loc n)) (.fz (.int i)) st = _
  have e : Rv.asQ δ st (.fz (.loc n)) = some ds := by
    unfold Rv.asQ Rv.asL Rv.con
    dsimp only
    rw [h]
  unfold kIxQ
  rw [e]; rfl
end
end DL

/-! DM2: what a reading must meet, step by step. -/
namespace DL
open PySem PySem.Spec PyProof.Rows L2 TL
set_option autoImplicit false
/-- what follows, kept from being looked into -/
class KQ (τ : Type) where
  q : τ
def hold {τ : Type} [q : KQ τ] : τ := q.q
@[simp ↓] theorem hold_1 {α β : Type} {f : α → β} {a : α} : hold (q := ⟨f⟩) a = f a := (rfl)
@[simp ↓] theorem hold_2 {α β γ : Type} {f : α → β → γ} {a : α} {b : β} : hold (q := ⟨f⟩) a b = f a b := (rfl)
def wp {α : Type} (o : Option (Res α × Sto)) (Q : α → Sto → Prop) (X : Exn → Sto → Prop) : Prop := match o with
  | some (.ok a, st) => Q a st
  | some (.ex x, st) => X x st
  | none => False
def wpS (o : Option (Fl × Sto)) (Q : Fl → Sto → Prop) : Prop := match o with
  | some (f, st) => Q f st
  | none => False
/-- a choice, a demand -/
def iteK (c : Bool) (A B : Unit → Prop) : Prop := if c then A () else B ()
def guardK (p : Prop) (A : Unit → Prop) : Prop := p ∧ A ()
/-- go on at a settled thing -/
def goK {α : Type} (a : α) (Q : α → Prop) : Prop := Q a
@[simp] theorem goK_eq {α : Type} {a : α} {Q : α → Prop} : goK a Q = Q a := (rfl)
theorem guard_i {p : Prop} {A : Unit → Prop} (h : p) (k : A ()) : guardK p A := ⟨h, k⟩
theorem ite_i {c : Bool} {A B : Unit → Prop} (h : c = true → A ()) (k : c = false → B ()) : iteK c A B := by
  unfold iteK
  cases c
  · exact k rfl
  · exact h rfl
@[simp ↓] theorem iteK_t {A B : Unit → Prop} : iteK true A B = A () := (rfl)
@[simp ↓] theorem iteK_f {A B : Unit → Prop} : iteK false A B = B () := (rfl)
@[simp ↓] theorem guardK_t {A : Unit → Prop} : guardK True A = A () := propext ⟨fun h => h.2, fun h => ⟨trivial, h⟩⟩
/-- what follows -/
def seqK (b : GS) (Q : Fl → Sto → Prop) : Fl → Sto → Prop
  | .nx δ, st => wpS (b δ st) Q
  | f, st => Q f st
/-- a body's end -/
def endK (Q : Rv → Sto → Prop) (X : Exn → Sto → Prop) : Fl → Sto → Prop
  | .nx _, st => Q (.fz .non) st
  | .rt r, st => Q r st
  | .ex x _, st => X x st
  | _, _ => False
abbrev noX : Exn → Sto → Prop := fun _ _ => False
def optK {α : Type} (o : Option α) (Q : α → Prop) : Prop := match o with
  | some a => Q a
  | none => False
theorem wp_cg {α : Type} {o : Option (Res α × Sto)} {Q Q' : α → Sto → Prop} {X : Exn → Sto → Prop} (h : ∀ a st, Q a st = Q' a st) : wp o Q X = wp o Q' X := by
  obtain rfl : Q = Q' := funext fun a => funext fun st => h a st
  rfl
theorem optK_cg {α : Type} {o : Option α} {Q Q' : α → Prop} (h : ∀ a, Q a = Q' a) : optK o Q = optK o Q' := by
  obtain rfl : Q = Q' := funext h
  rfl
theorem wp_of {α : Type} {o : Option (Res α × Sto)} {Q : α → Sto → Prop} (h : wp o Q noX) : ∃ a st, o = some (.ok a, st) ∧ Q a st := by
  unfold wp at h
  split at h
  · exact ⟨_, _, rfl, h⟩
  · exact h.elim
  · exact h.elim
theorem wp_eq {α : Type} {o : Option (Res α × Sto)} {Q : α → Sto → Prop} {X : Exn → Sto → Prop} {a : α} {st : Sto} (e : o = some (.ok a, st)) (h : Q a st) : wp o Q X := by rw [e]; exact h
theorem wpS_of {o : Option (Fl × Sto)} {Q : Fl → Sto → Prop} (h : wpS o Q) : ∃ f st, o = some (f, st) ∧ Q f st := by
  unfold wpS at h
  split at h
  · exact ⟨_, _, rfl, h⟩
  · exact h.elim
theorem wp_mono {α : Type} {o : Option (Res α × Sto)} {Q R : α → Sto → Prop} {X Y : Exn → Sto → Prop} (h : wp o Q X) (k : ∀ a st, Q a st → R a st) (l : ∀ x st, X x st → Y x st) : wp o R Y := by
  unfold wp at h ⊢
  split at h
  · exact k _ _ h
  · exact l _ _ h
  · exact h.elim
theorem wp_mono0 {α : Type} {o : Option (Res α × Sto)} {Q R : α → Sto → Prop} {Y : Exn → Sto → Prop} (h : wp o Q noX) (k : ∀ a st, Q a st → R a st) : wp o R Y := wp_mono h k fun _ _ z => z.elim
theorem wpS_mono {o : Option (Fl × Sto)} {Q R : Fl → Sto → Prop} (h : wpS o Q) (k : ∀ f st, Q f st → R f st) : wpS o R := by
  obtain ⟨a, st, e, q⟩ := wpS_of h
  rw [e]; exact k a st q
section
variable {α β : Type} {δ δ' : DEnv} {st st' : Sto} {i j : Int} {b c : Bool} {s t : List Nat} {x y r : Rv} {ds es : List D} {d e : D} {n m : Nat} {rs : List Rv} {X : Exn → Sto → Prop}
@[simp ↓] theorem optK_s {a : α} {Q : α → Prop} : optK (some a) Q = Q a := (rfl)
@[simp ↓] theorem optK_n {Q : α → Prop} : optK none Q = False := (rfl)
@[simp ↓] theorem wp_ret {a : α} {Q : α → Sto → Prop} : wp (ret a st) Q X = Q a st := (rfl)
@[simp ↓] theorem wp_some {a : α} {Q : α → Sto → Prop} : wp (some (.ok a, st)) Q X = Q a st := (rfl)
@[simp ↓] theorem wp_fail {Q : α → Sto → Prop} : wp ((fail : M α) st) Q X = False := (rfl)
theorem wp_bnd0 {mm : M α} {k : α → M β} {Q : β → Sto → Prop} : wp (bnd mm k st) Q X = wp (mm st) (fun a st' => wp (k a st') Q X) X := by
  unfold bnd wp
  cases mm st with
  | none => rfl
  | some o =>
    obtain ⟨o, st'⟩ := o
    cases o <;> rfl
theorem wp_opt0 {o : Option α} {f : α → M β} {Q : β → Sto → Prop} : wp (opt o f st) Q X = optK o fun a => wp (f a st) Q X := by
  cases o <;> rfl
@[simp ↓] theorem wp_bnd {mm : M α} {k : α → M β} {Q : β → Sto → Prop} : wp (bnd mm k st) Q X = wp (mm st) (hold (q := ⟨fun a st' => wp (k a st') Q X⟩)) X := by
  unfold bnd wp
  cases mm st with
  | none => rfl
  | some o =>
    obtain ⟨o, st'⟩ := o
    cases o <;> rfl
@[simp ↓] theorem wp_opt {o : Option α} {f : α → M β} {Q : β → Sto → Prop} : wp (opt o f st) Q X = optK o (hold (q := ⟨fun a => wp (f a st) Q X⟩)) := by
  cases o <;> rfl
@[simp ↓] theorem wp_ite {p : Prop} [Decidable p] {f g : M α} {Q : α → Sto → Prop} : wp ((if p then f else g) st) Q X = if p then wp (f st) Q X else wp (g st) Q X := by
  split <;> rfl
@[simp ↓] theorem wp_ite' {p : Prop} [Decidable p] {f g : Option (Res α × Sto)} {Q : α → Sto → Prop} : wp (if p then f else g) Q X = if p then wp f Q X else wp g Q X := by
  split <;> rfl
@[simp ↓] theorem wp_riv {Q : Rv → Sto → Prop} : wp (riv i st) Q X = Q (.fz (.int i)) st := (rfl)
@[simp ↓] theorem wp_rbv {Q : Rv → Sto → Prop} : wp (rbv b st) Q X = Q (.fz (.bl b)) st := (rfl)
@[simp ↓] theorem wp_rsv {Q : Rv → Sto → Prop} : wp (rsv s st) Q X = Q (.fz (.str s)) st := (rfl)
/-! expressions -/
def gVarO : Nat → Nat → DEnv → M Rv
  | _, _, [] => fail
  | _, 0, none :: _ => fail
  | _, 0, some (.fz d) :: _ => ret (.fz d)
  | n, 0, some (.ow _) :: _ => ret (.vw n)
  | n, m + 1, _ :: l => gVarO n m l
theorem gVarO_eq : ∀ {n m : Nat} {δ : DEnv}, gVarO n m δ = match δ[m]? with
    | some (some (.fz d)) => ret (.fz d)
    | some (some (.ow _)) => ret (.vw n)
    | _ => fail
  | _, m, [] => by rw [gVarO]; simp
  | _, 0, none :: _ => rfl
  | _, 0, some (.fz d) :: _ => rfl
  | n, 0, some (.ow _) :: _ => rfl
  | n, m + 1, _ :: l => by rw [gVarO, gVarO_eq, List.getElem?_cons_succ]
@[simp ↓] theorem wp_var {Q : Rv → Sto → Prop} : wp (gVar n δ st) Q X = wp (gVarO n n δ st) Q X := by
  rw [gVarO_eq]
  rfl
@[simp ↓] theorem wp_varO_0f {l : DEnv} {Q : Rv → Sto → Prop} : wp (gVarO n 0 (some (.fz d) :: l) st) Q X = Q (.fz d) st := (rfl)
@[simp ↓] theorem wp_varO_0o {l : DEnv} {c : Con} {Q : Rv → Sto → Prop} : wp (gVarO n 0 (some (.ow c) :: l) st) Q X = Q (.vw n) st := (rfl)
@[simp ↓] theorem wp_varO_s {a : Option SV} {l : DEnv} {Q : Rv → Sto → Prop} : wp (gVarO n (m + 1) (a :: l) st) Q X = wp (gVarO n m l st) Q X := by rw [gVarO]
@[simp ↓] theorem wp_C {Q : Rv → Sto → Prop} : wp (gC d δ st) Q X = Q (.fz d) st := (rfl)
variable {ga gb gc : DEnv → M Rv} {gs : DEnv → M (List Rv)} {gt gt' : DEnv → M Bool} {k k' : K2} {Q : Rv → Sto → Prop} {QB : Bool → Sto → Prop} {QL : List Rv → Sto → Prop}
@[simp ↓] theorem wp_bin : wp (gBin k ga gb δ st) Q X = wp (ga δ st) (hold (q := ⟨fun x st1 => wp (gb δ st1) (hold (q := ⟨fun y st2 => wp (k δ x y st2) Q X⟩)) X⟩)) X := by
  unfold gBin
  rw [wp_bnd0]
  refine wp_cg fun x st1 => ?_
  try simp only [hold_1, hold_2]
  rw [wp_bnd0]
  try rfl
@[simp ↓] theorem wp_un {k : K1} : wp (gUn k ga δ st) Q X = wp (ga δ st) (hold (q := ⟨fun x st1 => wp (k δ x st1) Q X⟩)) X := by
  unfold gUn
  rw [wp_bnd0]
  try rfl
theorem wp_frz0 : wp (gFrz ga δ st) Q X = wp (ga δ st) (fun x st1 => Q x.frz st1) X := by
  unfold gFrz
  rw [wp_bnd0]; rfl
@[simp ↓] theorem wp_frz : wp (gFrz ga δ st) Q X = wp (ga δ st) (hold (q := ⟨fun x st1 => Q x.frz st1⟩)) X := by
  unfold gFrz
  rw [wp_bnd0]; rfl
@[simp ↓] theorem wp_nil : wp (gNil δ st) QL X = QL [] st := (rfl)
@[simp ↓] theorem wp_cons : wp (gCons ga gs δ st) QL X = wp (ga δ st) (hold (q := ⟨fun x st1 => wp (gs δ st1) (hold (q := ⟨fun xs st2 => QL (x.frz :: xs) st2⟩)) X⟩)) X := by
  unfold gCons
  rw [wp_bnd0]
  refine wp_cg fun x st1 => ?_
  try simp only [hold_1, hold_2]
  rw [wp_bnd0]; rfl
@[simp ↓] theorem wp_fn {k : KN} : wp (gFn k gs δ st) Q X = wp (gs δ st) (hold (q := ⟨fun xs st1 => wp (k δ xs st1) Q X⟩)) X := by
  unfold gFn
  rw [wp_bnd0]
  try rfl
@[simp ↓] theorem wp_call {f : List D → M Rv} : wp (gCall n f gs δ st) Q X = wp (gs δ st) (hold (q := ⟨fun xs st1 => optK (allD xs) (hold (q := ⟨fun ds => guardK (ds.length = n) (hold (q := ⟨fun _ => wp (f ds st1) Q X⟩))⟩))⟩)) X := by
  unfold gCall
  rw [wp_bnd0]
  refine wp_cg fun xs st1 => ?_
  try simp only [hold_1, hold_2]
  rw [wp_opt0]
  refine optK_cg fun ds => ?_
  try simp only [hold_1, hold_2]
  unfold guardK
  split
  · rename_i h; exact propext ⟨fun z => ⟨h, z⟩, fun z => z.2⟩
  · rename_i h; exact propext ⟨fun z => False.elim z, fun z => absurd z.1 h⟩
@[simp] theorem allD_nil : allD [] = some [] := (rfl)
@[simp] theorem allD_cons : allD (.fz d :: rs) = (allD rs).map (d :: ·) := (rfl)
@[simp ↓] theorem wp_tup : wp (gTup gs δ st) Q X = wp (gs δ st) (hold (q := ⟨fun xs st1 => optK (allD xs) (hold (q := ⟨fun ds => guardK (ds.length ≤ LIM) (hold (q := ⟨fun _ => Q (.fz (.tup ds)) st1⟩))⟩))⟩)) X := by
  unfold gTup
  rw [wp_bnd0]
  refine wp_cg fun xs st1 => ?_
  try simp only [hold_1, hold_2]
  cases allD xs with
  | none => rfl
  | some ds =>
    show wp ((if ds.length ≤ LIM then ret (Rv.fz (.tup ds)) else fail) st1) Q X = guardK _ _
    unfold guardK
    split
    · rename_i h; exact propext ⟨fun z => ⟨h, z⟩, fun z => z.2⟩
    · rename_i h; exact propext ⟨fun z => False.elim z, fun z => absurd z.1 h⟩
@[simp ↓] theorem wp_lst : wp (gLst gs δ st) Q X = wp (gs δ st) (hold (q := ⟨fun xs st1 => optK (allD xs) (hold (q := ⟨fun ds => guardK (ds.length ≤ LIM) (hold (q := ⟨fun _ => Q (.ow (.lst ds)) st1⟩))⟩))⟩)) X := by
  unfold gLst
  rw [wp_bnd0]
  refine wp_cg fun xs st1 => ?_
  try simp only [hold_1, hold_2]
  cases allD xs with
  | none => rfl
  | some ds =>
    show wp ((if ds.length ≤ LIM then ret (Rv.ow (.lst ds)) else fail) st1) Q X = guardK _ _
    unfold guardK
    split
    · rename_i h; exact propext ⟨fun z => ⟨h, z⟩, fun z => z.2⟩
    · rename_i h; exact propext ⟨fun z => False.elim z, fun z => absurd z.1 h⟩
@[simp ↓] theorem wp_if : wp (gIf gt ga gb δ st) Q X = wp (gt δ st) (hold (q := ⟨fun c st1 => iteK c (hold (q := ⟨fun _ => wp (ga δ st1) Q X⟩)) (hold (q := ⟨fun _ => wp (gb δ st1) Q X⟩))⟩)) X := by
  unfold gIf
  rw [wp_bnd0]
  refine wp_cg fun c st1 => ?_
  try simp only [hold_1, hold_2]
  cases c <;> rfl
@[simp ↓] theorem wp_andV : wp (gAndV ga gb δ st) Q X = wp (ga δ st) (hold (q := ⟨fun x st1 => optK x.asB (hold (q := ⟨fun c => iteK c (hold (q := ⟨fun _ => wp (gb δ st1) Q X⟩)) (hold (q := ⟨fun _ => Q (.fz (.bl false)) st1⟩))⟩))⟩)) X := by
  unfold gAndV
  rw [wp_bnd0]
  refine wp_cg fun x st1 => ?_
  try simp only [hold_1, hold_2]
  rw [wp_opt0]
  refine optK_cg fun c => ?_
  try simp only [hold_1, hold_2]
  cases c <;> rfl
@[simp ↓] theorem wp_orV : wp (gOrV ga gb δ st) Q X = wp (ga δ st) (hold (q := ⟨fun x st1 => optK x.asB (hold (q := ⟨fun c => iteK c (hold (q := ⟨fun _ => Q (.fz (.bl true)) st1⟩)) (hold (q := ⟨fun _ => wp (gb δ st1) Q X⟩))⟩))⟩)) X := by
  unfold gOrV
  rw [wp_bnd0]
  refine wp_cg fun x st1 => ?_
  try simp only [hold_1, hold_2]
  rw [wp_opt0]
  refine optK_cg fun c => ?_
  try simp only [hold_1, hold_2]
  cases c <;> rfl
@[simp ↓] theorem wp_notV : wp (gNotV ga δ st) Q X = wp (ga δ st) (hold (q := ⟨fun x st1 => optK x.asB (hold (q := ⟨fun c => Q (.fz (.bl (!c))) st1⟩))⟩)) X := by
  unfold gNotV
  rw [wp_bnd0]
  refine wp_cg fun x st1 => ?_
  try simp only [hold_1, hold_2]
  rw [wp_opt0]
  rfl
@[simp ↓] theorem wp_chain : wp (gChain k k' ga gb gc δ st) Q X = wp (ga δ st) (hold (q := ⟨fun x st1 => wp (gb δ st1) (hold (q := ⟨fun y st2 => wp (k δ x y st2) (hold (q := ⟨fun z st3 => optK z.asB (hold (q := ⟨fun t => iteK t (hold (q := ⟨fun _ => wp (gc δ st3) (hold (q := ⟨fun w st4 => wp (k' δ y w st4) Q X⟩)) X⟩)) (hold (q := ⟨fun _ => Q (.fz (.bl false)) st3⟩))⟩))⟩)) X⟩)) X⟩)) X := by
  unfold gChain
  rw [wp_bnd0]
  refine wp_cg fun x st1 => ?_
  try simp only [hold_1, hold_2]
  rw [wp_bnd0]
  refine wp_cg fun y st2 => ?_
  try simp only [hold_1, hold_2]
  rw [wp_bnd0]
  refine wp_cg fun z st3 => ?_
  try simp only [hold_1, hold_2]
  rw [wp_opt0]
  refine optK_cg fun t => ?_
  try simp only [hold_1, hold_2]
  cases t
  · rfl
  · simp only [if_true, wp_bnd0, iteK_t]; rfl
/-! tests -/
@[simp ↓] theorem wp_tb : wp (gTB ga δ st) QB X = wp (ga δ st) (hold (q := ⟨fun x st1 => optK x.asB (hold (q := ⟨fun c => QB c st1⟩))⟩)) X := by
  unfold gTB
  rw [wp_bnd0]
  refine wp_cg fun x st1 => ?_
  try simp only [hold_1, hold_2]
  rw [wp_opt0]; rfl
@[simp ↓] theorem wp_tru : wp (gTru ga δ st) QB X = wp (ga δ st) (hold (q := ⟨fun x st1 => optK (x.tru δ st1) (hold (q := ⟨fun c => QB c st1⟩))⟩)) X := by
  unfold gTru
  rw [wp_bnd0]
  refine wp_cg fun x st1 => ?_
  try simp only [hold_1, hold_2]
  cases x.tru δ st1 <;> rfl
@[simp ↓] theorem wp_andT : wp (gAndT gt gt' δ st) QB X = wp (gt δ st) (hold (q := ⟨fun c st1 => iteK c (hold (q := ⟨fun _ => wp (gt' δ st1) QB X⟩)) (hold (q := ⟨fun _ => QB false st1⟩))⟩)) X := by
  unfold gAndT
  rw [wp_bnd0]
  refine wp_cg fun c st1 => ?_
  try simp only [hold_1, hold_2]
  cases c <;> rfl
@[simp ↓] theorem wp_orT : wp (gOrT gt gt' δ st) QB X = wp (gt δ st) (hold (q := ⟨fun c st1 => iteK c (hold (q := ⟨fun _ => QB true st1⟩)) (hold (q := ⟨fun _ => wp (gt' δ st1) QB X⟩))⟩)) X := by
  unfold gOrT
  rw [wp_bnd0]
  refine wp_cg fun c st1 => ?_
  try simp only [hold_1, hold_2]
  cases c <;> rfl
@[simp ↓] theorem wp_notT : wp (gNotT gt δ st) QB X = wp (gt δ st) (hold (q := ⟨fun c st1 => QB (!c) st1⟩)) X := by
  unfold gNotT
  rw [wp_bnd0]; rfl
@[simp ↓] theorem wp_yes : wp (gYes δ st) QB X = QB true st := (rfl)
/-! operators on cells and own lists -/
@[simp ↓] theorem wp_kIx_c : wp (kIx δ (.fz (.loc n)) (.fz (.int i)) st) Q X = optK (Rv.asQ δ st (.fz (.loc n))) (hold (q := ⟨fun ds => optK (atI ds i) (hold (q := ⟨fun d => Q (.fz d) st⟩))⟩)) := by
  show wp (kIxQ δ (.fz (.loc n)) (.fz (.int i)) st) Q X = _
  unfold kIxQ
  rw [wp_opt0]
  refine optK_cg fun ds => ?_
  try simp only [hold_1, hold_2]
  rw [wp_opt0]
  show wp (opt (atI ds i) _ st) Q X = _
  rw [wp_opt0]; rfl
@[simp ↓] theorem wp_kIx_v : wp (kIx δ (.vw n) (.fz (.int i)) st) Q X = optK (Rv.asQ δ st (.vw n)) (hold (q := ⟨fun ds => optK (atI ds i) (hold (q := ⟨fun d => Q (.fz d) st⟩))⟩)) := by
  show wp (kIxQ δ (.vw n) (.fz (.int i)) st) Q X = _
  unfold kIxQ
  rw [wp_opt0]
  refine optK_cg fun ds => ?_
  try simp only [hold_1, hold_2]
  rw [wp_opt0]
  show wp (opt (atI ds i) _ st) Q X = _
  rw [wp_opt0]; rfl
@[simp] theorem asQ_c0 {c : Option Con} {l : Sto} (h : c = some (.lst ds)) : Rv.asQ δ (c :: l) (.fz (.loc 0)) = some ds := by subst h; rfl
@[simp] theorem asQ_c {l : Sto} : Rv.asQ δ (some (.lst ds) :: l) (.fz (.loc 0)) = some ds := (rfl)
@[simp] theorem asQ_l : Rv.asQ δ st (.fz (.lst ds)) = some ds := (rfl)
@[simp] theorem asQ_t : Rv.asQ δ st (.fz (.tup ds)) = some ds := (rfl)
@[simp] theorem asQ_r : Rv.asQ δ st (.fz (.rol ds)) = some ds := (rfl)
@[simp] theorem asQ_o : Rv.asQ δ st (.ow (.lst ds)) = some ds := (rfl)
@[simp] theorem asQ_vw : Rv.asQ δ st (.vw n) = ownL δ n := by
  unfold Rv.asQ Rv.asL Rv.con ownL
  rfl
@[simp] theorem ownL_0o {l : DEnv} : ownL (some (.ow (.lst ds)) :: l) 0 = some ds := (rfl)
@[simp] theorem ownL_s {a : Option SV} {l : DEnv} : ownL (a :: l) (n + 1) = ownL l n := by
  unfold ownL ownAt
  rw [List.getElem?_cons_succ]
@[simp] theorem asR_o : Rv.asR δ st (.ow (.lst ds)) = some ds := (rfl)
@[simp] theorem asR_l : Rv.asR δ st (.fz (.lst ds)) = some ds := (rfl)
@[simp] theorem asR_r : Rv.asR δ st (.fz (.rol ds)) = some ds := (rfl)
@[simp] theorem asR_v' : Rv.asR δ st (.vw n) = ownL δ n := by
  unfold Rv.asR Rv.asL Rv.con ownL
  rfl
/-! functions -/
@[simp ↓] theorem wp_len_s (h : s.length ≤ LIM) : wp (kLen δ [.fz (.str s)] st) Q X = Q (.fz (.int s.length)) st := by
  show wp ((if s.length ≤ LIM then riv s.length else fail) st) Q X = _
  rw [if_pos h]; rfl
@[simp ↓] theorem wp_len_l : wp (kLen δ [.fz (.lst ds)] st) Q X = Q (.fz (.int ds.length)) st := (rfl)
@[simp ↓] theorem wp_len_r : wp (kLen δ [.fz (.rol ds)] st) Q X = Q (.fz (.int ds.length)) st := (rfl)
@[simp ↓] theorem wp_len_t : wp (kLen δ [.fz (.tup ds)] st) Q X = Q (.fz (.int ds.length)) st := (rfl)
@[simp ↓] theorem wp_len_v : wp (kLen δ [.vw n] st) Q X = optK (ownL δ n) (hold (q := ⟨fun ds => Q (.fz (.int ds.length)) st⟩)) := by
  show wp (opt (Rv.asQ δ st (.vw n)) (fun ds => riv ds.length) st) Q X = _
  rw [wp_opt0, asQ_vw]; rfl
@[simp ↓] theorem wp_len_c : wp (kLen δ [.fz (.loc n)] st) Q X = optK (Rv.asQ δ st (.fz (.loc n))) (hold (q := ⟨fun ds => Q (.fz (.int ds.length)) st⟩)) := by
  show wp (opt (Rv.asQ δ st (.fz (.loc n))) (fun ds => riv ds.length) st) Q X = _
  rw [wp_opt0]; rfl
@[simp ↓] theorem wp_list : wp (kList δ [x] st) Q X = optK (x.asQ δ st) (hold (q := ⟨fun ds => Q (.ow (.lst ds)) st⟩)) := by
  show wp (opt (x.asQ δ st) (fun ds => ret (.ow (.lst ds))) st) Q X = _
  rw [wp_opt0]; rfl
@[simp ↓] theorem wp_all : wp (kAll δ [x] st) Q X = optK (x.asR δ st) (hold (q := ⟨fun ds => optK (bls? ds) (hold (q := ⟨fun bs => Q (.fz (.bl (bs.all id))) st⟩))⟩)) := by
  show wp (opt (x.asR δ st) (fun ds => opt (bls? ds) fun bs => rbv (bs.all id)) st) Q X = _
  rw [wp_opt0]
  refine optK_cg fun ds => ?_
  try simp only [hold_1, hold_2]
  rw [wp_opt0]; rfl
@[simp ↓] theorem wp_any : wp (kAny δ [x] st) Q X = optK (x.asR δ st) (hold (q := ⟨fun ds => optK (bls? ds) (hold (q := ⟨fun bs => Q (.fz (.bl (bs.any id))) st⟩))⟩)) := by
  show wp (opt (x.asR δ st) (fun ds => opt (bls? ds) fun bs => rbv (bs.any id)) st) Q X = _
  rw [wp_opt0]
  refine optK_cg fun ds => ?_
  try simp only [hold_1, hold_2]
  rw [wp_opt0]; rfl
@[simp ↓] theorem wp_sum : wp (kSum δ [x] st) Q X = optK (x.asR δ st) (hold (q := ⟨fun ds => optK (ints? ds) (hold (q := ⟨fun bs => Q (.fz (.int bs.sum)) st⟩))⟩)) := by
  show wp (opt (x.asR δ st) (fun ds => opt (ints? ds) fun bs => riv bs.sum) st) Q X = _
  rw [wp_opt0]
  refine optK_cg fun ds => ?_
  try simp only [hold_1, hold_2]
  rw [wp_opt0]; rfl
/-! statements -/
variable {a b : GS} {R : Fl → Sto → Prop}
@[simp ↓] theorem wpS_next : wpS (sNext δ st) R = R (.nx δ) st := (rfl)
@[simp ↓] theorem wpS_seq : wpS (sSeq a b δ st) R = wpS (a δ st) (hold (q := ⟨seqK b R⟩)) := by
  unfold sSeq wpS
  cases a δ st with
  | none => rfl
  | some o =>
    obtain ⟨f, st'⟩ := o
    cases f <;> rfl
@[simp ↓] theorem seqK_nx : seqK b R (.nx δ) st = wpS (b δ st) R := (rfl)
@[simp ↓] theorem seqK_rt : seqK b R (.rt r) st = R (.rt r) st := (rfl)
@[simp ↓] theorem seqK_bk : seqK b R (.bk δ) st = R (.bk δ) st := (rfl)
@[simp ↓] theorem seqK_ct : seqK b R (.ct δ) st = R (.ct δ) st := (rfl)
@[simp ↓] theorem endK_nx : endK Q X (.nx δ) st = Q (.fz .non) st := (rfl)
@[simp ↓] theorem endK_rt : endK Q X (.rt r) st = Q r st := (rfl)
theorem wpS_bnd0 {mm : M α} {kk : α → Sto → Option (Fl × Sto)} : wpS (sBnd mm δ kk st) R = wp (mm st) (fun a st' => wpS (kk a st') R) (fun x st' => R (.ex x δ) st') := by
  unfold sBnd wp
  cases mm st with
  | none => rfl
  | some o =>
    obtain ⟨o, st'⟩ := o
    cases o <;> rfl
@[simp ↓] theorem wpS_bnd {mm : M α} {kk : α → Sto → Option (Fl × Sto)} : wpS (sBnd mm δ kk st) R = wp (mm st) (hold (q := ⟨fun a st' => wpS (kk a st') R⟩)) (hold (q := ⟨fun x st' => R (.ex x δ) st'⟩)) := by
  unfold sBnd wp
  cases mm st with
  | none => rfl
  | some o =>
    obtain ⟨o, st'⟩ := o
    cases o <;> rfl
@[simp ↓] theorem wpS_some {f : Fl} : wpS (some (f, st)) R = R f st := (rfl)
@[simp ↓] theorem wpS_none : wpS none R = False := (rfl)
@[simp ↓] theorem wpS_ite {p : Prop} [Decidable p] {f g : GS} : wpS ((if p then f else g) δ st) R = if p then wpS (f δ st) R else wpS (g δ st) R := by
  split <;> rfl
@[simp ↓] theorem wpS_if : wpS (sIf gt a b δ st) R = wp (gt δ st) (hold (q := ⟨fun c st1 => iteK c (hold (q := ⟨fun _ => wpS (a δ st1) R⟩)) (hold (q := ⟨fun _ => wpS (b δ st1) R⟩))⟩)) (hold (q := ⟨fun x st1 => R (.ex x δ) st1⟩)) := by
  unfold sIf
  rw [wpS_bnd0]
  refine wp_cg fun c st1 => ?_
  try simp only [hold_1, hold_2]
  cases c <;> rfl
@[simp ↓] theorem wpS_expr : wpS (sExpr ga δ st) R = wp (ga δ st) (hold (q := ⟨fun _ st1 => R (.nx δ) st1⟩)) (hold (q := ⟨fun x st1 => R (.ex x δ) st1⟩)) := by
  unfold sExpr
  rw [wpS_bnd0]; rfl
@[simp ↓] theorem wpS_ret : wpS (sRet ga δ st) R = wp (ga δ st) (hold (q := ⟨fun r st1 => optK (r.out δ) (hold (q := ⟨fun r => R (.rt r) st1⟩))⟩)) (hold (q := ⟨fun x st1 => R (.ex x δ) st1⟩)) := by
  unfold sRet
  rw [wpS_bnd0]
  refine wp_cg fun r st1 => ?_
  try simp only [hold_1, hold_2]
  cases r.out δ <;> rfl
@[simp ↓] theorem wpS_retN : wpS (sRetN δ st) R = R (.rt (.fz .non)) st := (rfl)
@[simp ↓] theorem wpS_bk : wpS ((fun δ st => some (.bk δ, st) : GS) δ st) R = R (.bk δ) st := (rfl)
@[simp ↓] theorem wpS_ct : wpS ((fun δ st => some (.ct δ, st) : GS) δ st) R = R (.ct δ) st := (rfl)
/-- slot i takes a value -/
def setK (i : Nat) (r : Rv) (δ : DEnv) (Q : DEnv → Prop) : Prop := match r with
  | .fz d => Q (δ.set i (some (.fz d)))
  | .ow c => Q (δ.set i (some (.ow c)))
  | .vw _ => False
@[simp ↓] theorem setK_f {Q : DEnv → Prop} : setK n (.fz d) δ Q = goK (δ.set n (some (.fz d))) Q := (rfl)
@[simp ↓] theorem setK_o {c : Con} {Q : DEnv → Prop} : setK n (.ow c) δ Q = goK (δ.set n (some (.ow c))) Q := (rfl)
@[simp ↓] theorem wpS_set : wpS (sSet n ga δ st) R = wp (ga δ st) (hold (q := ⟨fun r st1 => setK n r δ (hold (q := ⟨fun δ' => R (.nx δ') st1⟩))⟩)) (hold (q := ⟨fun x st1 => R (.ex x δ) st1⟩)) := by
  unfold sSet
  rw [wpS_bnd0]
  refine wp_cg fun r st1 => ?_
  try simp only [hold_1, hold_2]
  cases r <;> rfl
def cellK (n : Nat) (r : Rv) (δ : DEnv) (st : Sto) (R : Fl → Sto → Prop) : Prop := match r with
  | .ow c => R (.nx (δ.set n (some (.fz (.loc st.length))))) (st ++ [some c])
  | _ => False
@[simp ↓] theorem cellK_o {c : Con} : cellK n (.ow c) δ st R = goK (δ.set n (some (.fz (.loc st.length)))) (hold (q := ⟨fun δ' => goK (st ++ [some c]) (hold (q := ⟨fun st' => R (.nx δ') st'⟩))⟩)) := (rfl)
@[simp ↓] theorem wpS_cell : wpS (sCell n ga δ st) R = wp (ga δ st) (hold (q := ⟨fun r st1 => cellK n r δ st1 R⟩)) (hold (q := ⟨fun x st1 => R (.ex x δ) st1⟩)) := by
  unfold sCell
  rw [wpS_bnd0]
  refine wp_cg fun r st1 => ?_
  try simp only [hold_1, hold_2]
  cases r <;> rfl
def subAt (st : Sto) (n : Nat) (rk : Rv) (d : D) : Option (List D) := (cellL st n).bind fun ds => rk.asI.bind fun k => setIx ds k d
@[simp] theorem subAt_i {l : Sto} {i : Int} : subAt (some (.lst ds) :: l) 0 (.fz (.int i)) d = setIx ds i d := (rfl)
def subIn (ds : List D) (rk : Rv) (d : D) : Option (List D) := rk.asI.bind fun k => setIx ds k d
@[simp] theorem subIn_i {i : Int} : subIn ds (.fz (.int i)) d = setIx ds i d := (rfl)
def subK (n : Nat) (r rk : Rv) (δ : DEnv) (st : Sto) (R : Fl → Sto → Prop) : Prop := match r with
  | .fz d => optK ((cellL st n).bind fun ds => rk.asI.bind fun k => setIx ds k d) fun ds' => R (.nx δ) (st.set n (some (.lst ds')))
  | _ => False
@[simp ↓] theorem subK_f {rk : Rv} : subK n (.fz d) rk δ st R = optK (subAt st n rk d) (hold (q := ⟨fun ds' => goK (st.set n (some (.lst ds'))) (hold (q := ⟨fun st' => R (.nx δ) st'⟩))⟩)) := (rfl)
@[simp ↓] theorem wpS_subC {gk : DEnv → M Rv} : wpS (sSubC m ga gk δ st) R = optK (locAt δ m) (hold (q := ⟨fun n => wp (ga δ st) (hold (q := ⟨fun r st1 => wp (gk δ st1) (hold (q := ⟨fun rk st2 => subK n r.frz rk δ st2 R⟩)) (hold (q := ⟨fun x st2 => R (.ex x δ) st2⟩))⟩)) (hold (q := ⟨fun x st1 => R (.ex x δ) st1⟩))⟩)) := by
  unfold sSubC
  cases locAt δ m with
  | none => rfl
  | some n =>
    simp only [wpS_bnd0, wp_frz0, optK_s]
    refine wp_cg fun r st1 => ?_
    try simp only [hold_1, hold_2]
    refine wp_cg fun rk st2 => ?_
    try simp only [hold_1, hold_2]
    cases r.frz with
    | fz d =>
      unfold subK
      dsimp only
      cases ((cellL st2 n).bind fun ds => rk.asI.bind fun k => setIx ds k d) <;> rfl
    | ow c => rfl
    | vw j => rfl
def subO (n : Nat) (r rk : Rv) (ds : List D) (δ : DEnv) (st : Sto) (R : Fl → Sto → Prop) : Prop := match r with
  | .fz d => optK (rk.asI.bind fun k => setIx ds k d) fun ds' => R (.nx (δ.set n (some (.ow (.lst ds'))))) st
  | _ => False
@[simp ↓] theorem subO_f {rk : Rv} : subO n (.fz d) rk ds δ st R = optK (subIn ds rk d) (hold (q := ⟨fun ds' => goK (δ.set n (some (.ow (.lst ds')))) (hold (q := ⟨fun δ' => R (.nx δ') st⟩))⟩)) := (rfl)
@[simp ↓] theorem wpS_sub {gk : DEnv → M Rv} : wpS (sSub n ga gk δ st) R = optK (ownL δ n) (hold (q := ⟨fun ds => wp (ga δ st) (hold (q := ⟨fun r st1 => wp (gk δ st1) (hold (q := ⟨fun rk st2 => subO n r.frz rk ds δ st2 R⟩)) (hold (q := ⟨fun x st2 => R (.ex x δ) st2⟩))⟩)) (hold (q := ⟨fun x st1 => R (.ex x δ) st1⟩))⟩)) := by
  unfold sSub
  cases ownL δ n with
  | none => rfl
  | some ds =>
    simp only [wpS_bnd0, wp_frz0, optK_s]
    refine wp_cg fun r st1 => ?_
    try simp only [hold_1, hold_2]
    refine wp_cg fun rk st2 => ?_
    try simp only [hold_1, hold_2]
    cases r.frz with
    | fz d =>
      unfold subO
      dsimp only
      cases (rk.asI.bind fun k => setIx ds k d) <;> rfl
    | ow c => rfl
    | vw j => rfl
@[simp ↓] theorem wpS_own {f : List D → List D → Option (List D)} : wpS (sOwn n gs f δ st) R = optK (ownL δ n) (hold (q := ⟨fun ds => wp (gs δ st) (hold (q := ⟨fun rs st1 => optK ((allD rs).bind (f ds)) (hold (q := ⟨fun ds' => goK (δ.set n (some (.ow (.lst ds')))) (hold (q := ⟨fun δ' => R (.nx δ') st1⟩))⟩))⟩)) (hold (q := ⟨fun x st1 => R (.ex x δ) st1⟩))⟩)) := by
  unfold sOwn
  cases ownL δ n with
  | none => rfl
  | some ds =>
    simp only [wpS_bnd0, optK_s]
    refine wp_cg fun rs st1 => ?_
    try simp only [hold_1, hold_2]
    cases ((allD rs).bind (f ds)) <;> rfl
def augK : Nat → DEnv → (D → Prop) → Prop
  | _, [], _ => False
  | 0, some (.fz d) :: _, Q => Q d
  | 0, _ :: _, _ => False
  | n + 1, _ :: l, Q => augK n l Q
@[simp ↓] theorem augK_0 {l : DEnv} {Q : D → Prop} : augK 0 (some (.fz d) :: l) Q = Q d := (rfl)
@[simp ↓] theorem augK_s {v : Option SV} {l : DEnv} {Q : D → Prop} : augK (n + 1) (v :: l) Q = augK n l Q := by rw [augK]
theorem augK_eq : ∀ {n : Nat} {δ : DEnv} {Q : D → Prop}, augK n δ Q = match δ[n]? with
    | some (some (.fz d)) => Q d
    | _ => False
  | n, [], Q => by rw [augK]; simp
  | 0, some (.fz d) :: _, Q => rfl
  | 0, some (.ow c) :: _, Q => rfl
  | 0, none :: _, Q => rfl
  | n + 1, _ :: l, Q => by rw [augK, augK_eq, List.getElem?_cons_succ]
@[simp ↓] theorem wpS_aug : wpS (sAug n k ga δ st) R = augK n δ (hold (q := ⟨fun d => wp (ga δ st) (hold (q := ⟨fun y st1 => wp (k δ (.fz d) y st1) (hold (q := ⟨fun r st2 => setK n r δ (hold (q := ⟨fun δ' => R (.nx δ') st2⟩))⟩)) (hold (q := ⟨fun x st2 => R (.ex x δ) st2⟩))⟩)) (hold (q := ⟨fun x st1 => R (.ex x δ) st1⟩))⟩)) := by
  rw [augK_eq]
  unfold sAug
  match δ[n]? with
  | some (some (.fz d)) =>
    simp only [wpS_bnd0, wp_bnd0]
    refine wp_cg fun y st1 => ?_
    try simp only [hold_1, hold_2]
    refine wp_cg fun r st2 => ?_
    try simp only [hold_1, hold_2]
    cases r <;> rfl
  | some (some (.ow _)) => rfl
  | some none => rfl
  | none => rfl
@[simp ↓] theorem wp_runB {N : List Str} {gs : GS} : wp (runB N gs ds st) Q X = goK (startD N ds) (hold (q := ⟨fun δ => wpS (gs δ st) (hold (q := ⟨endK Q X⟩))⟩)) := by
  unfold runB
  show wp _ Q X = wpS (gs (startD N ds) st) (endK Q X)
  unfold wpS
  match gs (startD N ds) st with
  | none => rfl
  | some (.nx _, st') => rfl
  | some (.rt r, st') => rfl
  | some (.bk _, _) => rfl
  | some (.ct _, _) => rfl
  | some (.ex x _, st') => rfl
@[simp ↓] theorem endK_ex {x : Exn} : endK Q X (.ex x δ) st = X x st := (rfl)
@[simp ↓] theorem seqK_ex {x : Exn} : seqK b R (.ex x δ) st = R (.ex x δ) st := (rfl)
/-! freezing -/
@[simp] theorem frzS_0o {c : Con} {l : DEnv} : frzS 0 (some (.ow c) :: l) = some (.fz c.fz) :: l := (rfl)
@[simp] theorem frzS_0f {l : DEnv} : frzS 0 (some (.fz d) :: l) = some (.fz d) :: l := (rfl)
@[simp] theorem frzS_0n {l : DEnv} : frzS 0 (none :: l) = none :: l := (rfl)
@[simp] theorem frzS_nil : frzS n [] = [] := by unfold frzS ownAt; rfl
@[simp] theorem frzS_s {v : Option SV} {l : DEnv} : frzS (n + 1) (v :: l) = v :: frzS n l := by
  unfold frzS ownAt
  rw [List.getElem?_cons_succ]
  match l[n]? with
  | some (some (.ow c)) => rfl
  | some (some (.fz d)) => rfl
  | some none => rfl
  | none => rfl
@[simp ↓] theorem wpS_frz0 : wpS (sFrz [] a δ st) R = wpS (a δ st) R := (rfl)
@[simp ↓] theorem wpS_frz {is : List Nat} : wpS (sFrz (n :: is) a δ st) R = goK (frzS n δ) (hold (q := ⟨fun δ' => wpS (sFrz is a δ' st) R⟩)) := (rfl)
@[simp] theorem locAt_0 {l : DEnv} : locAt (some (.fz (.loc n)) :: l) 0 = some n := (rfl)
@[simp] theorem locAt_s {v : Option SV} {l : DEnv} : locAt (v :: l) (n + 1) = locAt l n := by
  unfold locAt
  rw [List.getElem?_cons_succ]
@[simp] theorem cellL_0 {l : Sto} : cellL (some (.lst ds) :: l) 0 = some ds := (rfl)
/-! slices -/
@[simp ↓] theorem wp_oNone {Q : Option Int → Sto → Prop} : wp (gONone δ st) Q X = Q none st := (rfl)
@[simp ↓] theorem wp_oSome {Q : Option Int → Sto → Prop} : wp (gOSome ga δ st) Q X = wp (ga δ st) (hold (q := ⟨fun r st1 => optK r.asI (hold (q := ⟨fun i => Q (some i) st1⟩))⟩)) X := by
  unfold gOSome
  rw [wp_bnd0]
  refine wp_cg fun x st1 => ?_
  try simp only [hold_1, hold_2]
  rw [wp_opt0]; rfl
@[simp ↓] theorem wp_slice {gl gh : DEnv → M (Option Int)} {k : K3} : wp (gSlice ga gl gh k δ st) Q X = wp (ga δ st) (hold (q := ⟨fun x st1 => wp (gl δ st1) (hold (q := ⟨fun lo st2 => wp (gh δ st2) (hold (q := ⟨fun hi st3 => wp (k δ x lo hi st3) Q X⟩)) X⟩)) X⟩)) X := by
  unfold gSlice
  rw [wp_bnd0]
  refine wp_cg fun x st1 => ?_
  try simp only [hold_1, hold_2]
  rw [wp_bnd0]
  refine wp_cg fun x st1 => ?_
  try simp only [hold_1, hold_2]
  rw [wp_bnd0]
  try rfl
@[simp ↓] theorem wp_sl_r {lo hi : Option Int} : wp (kSl δ (.fz (.rol ds)) lo hi st) Q X = Q (.ow (.lst (cutQ ds lo hi))) st := (rfl)
@[simp ↓] theorem wp_sl_l {lo hi : Option Int} : wp (kSl δ (.fz (.lst ds)) lo hi st) Q X = Q (.ow (.lst (cutQ ds lo hi))) st := (rfl)
@[simp ↓] theorem wp_sl_t {lo hi : Option Int} : wp (kSl δ (.fz (.tup ds)) lo hi st) Q X = Q (.fz (.tup (cutQ ds lo hi))) st := (rfl)
@[simp ↓] theorem wp_sl_s {lo hi : Option Int} (h : s.length ≤ LIM) : wp (kSl δ (.fz (.str s)) lo hi st) Q X = Q (.fz (.str (cutQ s lo hi))) st := by
  show wp ((if s.length ≤ LIM then rsv (cutQ s lo hi) else fail) st) Q X = _
  rw [if_pos h]; rfl
/-! joining -/
@[simp ↓] theorem wp_join : wp (gJoin ga gb δ st) Q X = wp (ga δ st) (hold (q := ⟨fun r st1 => optK r.asS (hold (q := ⟨fun sep => wp (gb δ st1) (hold (q := ⟨fun x st2 => optK (x.frz.asQ δ st2) (hold (q := ⟨fun ds => optK (strs? ds) (hold (q := ⟨fun ss => guardK ((ss.map List.length).sum + ss.length * sep.length ≤ LIM) (hold (q := ⟨fun _ => Q (.fz (.str (joinL sep ss))) st2⟩))⟩))⟩))⟩)) X⟩))⟩)) X := by
  unfold gJoin
  rw [wp_bnd0]
  refine wp_cg fun r st1 => ?_
  try simp only [hold_1, hold_2]
  rw [wp_opt0]
  refine optK_cg fun sep => ?_
  try simp only [hold_1, hold_2]
  rw [wp_bnd0, wp_frz0]
  refine wp_cg fun x st2 => ?_
  try simp only [hold_1, hold_2]
  rw [wp_opt0]
  refine optK_cg fun ds => ?_
  try simp only [hold_1, hold_2]
  rw [wp_opt0]
  refine optK_cg fun ss => ?_
  try simp only [hold_1, hold_2]
  unfold guardK
  split
  · rename_i h; exact propext ⟨fun z => ⟨h, z⟩, fun z => z.2⟩
  · rename_i h; exact propext ⟨fun z => False.elim z, fun z => absurd z.1 h⟩
/-! iteration -/
variable {QI : List D → Sto → Prop} {t : GT}
@[simp ↓] theorem wp_items : wp (gItems ga δ st) QI X = wp (ga δ st) (hold (q := ⟨fun r st1 => optK r.frz.items (hold (q := ⟨fun ds => QI ds st1⟩))⟩)) X := by
  unfold gItems
  rw [wp_bnd0, wp_frz0]
  refine wp_cg fun r st1 => ?_
  try simp only [hold_1, hold_2]
  rw [wp_opt0]; rfl
@[simp] theorem items_l : (Rv.fz (.lst ds)).items = some ds := (rfl)
@[simp] theorem items_r : (Rv.fz (.rol ds)).items = some ds := (rfl)
@[simp] theorem items_t : (Rv.fz (.tup ds)).items = some ds := (rfl)
@[simp] theorem items_s : (Rv.fz (.str s)).items = some (s.map fun c => .str [c]) := (rfl)
def rng1 (QI : List D → Sto → Prop) (st : Sto) : List Rv → Prop
  | [r] => optK r.asI (hold (q := ⟨fun j => guardK (okR j = true) (hold (q := ⟨fun _ => QI (rangeD 0 j.toNat) st⟩))⟩))
  | _ => False
def rng2 (QI : List D → Sto → Prop) (st : Sto) : List Rv → Prop
  | [r, r'] => optK r.asI (hold (q := ⟨fun i => optK r'.asI (hold (q := ⟨fun j => guardK ((okR i && okR j) = true) (hold (q := ⟨fun _ => QI (rangeD i (j - i).toNat) st⟩))⟩))⟩))
  | _ => False
@[simp ↓] theorem rng1_1 : rng1 QI st [r] = optK r.asI (hold (q := ⟨fun j => guardK (okR j = true) (hold (q := ⟨fun _ => QI (rangeD 0 j.toNat) st⟩))⟩)) := (rfl)
@[simp ↓] theorem rng2_2 {r' : Rv} : rng2 QI st [r, r'] = optK r.asI (hold (q := ⟨fun i => optK r'.asI (hold (q := ⟨fun j => guardK ((okR i && okR j) = true) (hold (q := ⟨fun _ => QI (rangeD i (j - i).toNat) st⟩))⟩))⟩)) := (rfl)
@[simp ↓] theorem wp_range1 : wp (gRange1 gs δ st) QI X = wp (gs δ st) (hold (q := ⟨fun rs st1 => rng1 QI st1 rs⟩)) X := by
  unfold gRange1
  rw [wp_bnd0]
  refine wp_cg fun rs st1 => ?_
  try simp only [hold_1, hold_2]
  match rs with
  | [] => rfl
  | [r] =>
    rw [rng1_1]
    show wp (opt r.asI _ st1) QI X = _
    rw [wp_opt0]
    refine optK_cg fun j => ?_
    try simp only [hold_1, hold_2]
    unfold guardK
    split
    · rename_i h; exact propext ⟨fun z => ⟨h, z⟩, fun z => z.2⟩
    · rename_i h; exact propext ⟨fun z => False.elim z, fun z => absurd z.1 h⟩
  | _ :: _ :: _ => rfl
@[simp ↓] theorem wp_range2 : wp (gRange2 gs δ st) QI X = wp (gs δ st) (hold (q := ⟨fun rs st1 => rng2 QI st1 rs⟩)) X := by
  unfold gRange2
  rw [wp_bnd0]
  refine wp_cg fun rs st1 => ?_
  try simp only [hold_1, hold_2]
  match rs with
  | [] => rfl
  | [_] => rfl
  | [r, r'] =>
    rw [rng2_2]
    show wp (opt r.asI _ st1) QI X = _
    rw [wp_opt0]
    refine optK_cg fun j => ?_
    try simp only [hold_1, hold_2]
    rw [wp_opt0]
    refine optK_cg fun j' => ?_
    try simp only [hold_1, hold_2]
    unfold guardK
    split
    · rename_i h; exact propext ⟨fun z => ⟨h, z⟩, fun z => z.2⟩
    · rename_i h; exact propext ⟨fun z => False.elim z, fun z => absurd z.1 h⟩
  | _ :: _ :: _ :: _ => rfl
@[simp ↓] theorem wpS_for {gi : DEnv → M (List D)} {body : GS} : wpS (sFor gi t body δ st) R = wp (gi δ st) (hold (q := ⟨fun ds st1 => wpS (forG t body ds δ st1) R⟩)) (hold (q := ⟨fun x st1 => R (.ex x δ) st1⟩)) := by
  unfold sFor
  rw [wpS_bnd0]
  try rfl
@[simp ↓] theorem wp_lc {gi : DEnv → M (List D)} {vs : List Nat} {tt : DEnv → M Bool} {te : DEnv → M Rv} : wp (gLc gi vs t tt te δ st) Q X = wp (gi δ st) (hold (q := ⟨fun ds st1 => goK (wipeD δ vs) (hold (q := ⟨fun δ' => wp (compG t tt te δ' ds [] st1) (hold (q := ⟨fun acc st2 => Q (.ow (.lst acc)) st2⟩)) X⟩))⟩)) X := by
  unfold gLc
  rw [wp_bnd0]
  refine wp_cg fun ds st1 => ?_
  try simp only [hold_1, hold_2]
  rw [wp_bnd0]; rfl
@[simp] theorem wipeD_nil : wipeD δ [] = δ := (rfl)
@[simp] theorem wipeD_cons {vs : List Nat} : wipeD δ (n :: vs) = (wipeD δ vs).set n none := (rfl)
@[simp] theorem tName_ap : tName n d δ = some (δ.set n (some (.fz d))) := (rfl)
end
/-! ### walks -/
section
variable {t : GT} {body : GS} {R : Fl → Sto → Prop}
/-- what the turns that may still come must keep: I before each turn -/
def turnK (I : DEnv → Sto → Prop) (B : Prop) (R : Fl → Sto → Prop) (Z : DEnv → Sto → Prop) : Fl → Sto → Prop
  | .nx δ, st => I δ st
  | .ct δ, st => I δ st
  | .bk δ, st => Z δ st
  | f, st => R f st
/-- a walk by what holds ahead of each turn -/
theorem wpS_forG (I : Nat → DEnv → Sto → Prop) : ∀ (ds : List D) (k : Nat) {δ : DEnv} {st : Sto}, I k δ st →
    (∀ (i : Nat) (d : D) (δ : DEnv) (st : Sto), ds[i]? = some d → I (k + i) δ st → optK (t d δ) fun δ1 => wpS (body δ1 st) (fun f st' => match f with
      | .nx δ' => I (k + i + 1) δ' st'
      | .ct δ' => I (k + i + 1) δ' st'
      | .bk δ' => R (.nx δ') st'
      | f => R f st')) →
    (∀ δ st, I (k + ds.length) δ st → R (.nx δ) st) → wpS (forG t body ds δ st) R
  | [], k, δ, st, h0, hs, he => he δ st h0
  | d :: ds, k, δ, st, h0, hs, he => by
    have h1 := hs 0 d δ st rfl h0
    unfold forG
    cases q : t d δ with
    | none => rw [q] at h1; exact h1.elim
    | some δ1 =>
      rw [q] at h1
      dsimp only
      obtain ⟨f, st', e, q2⟩ := wpS_of h1
      rw [e]
      have next : ∀ δ' st', I (k + 0 + 1) δ' st' → wpS (forG t body ds δ' st') R := fun δ' st' hI =>
        wpS_forG I ds (k + 1) hI (fun i d' δ st hd hi => by
          have := hs (i + 1) d' δ st (by simpa using hd) (by rw [show k + (i + 1) = k + 1 + i by omega]; exact hi)
          rw [show k + (i + 1) + 1 = k + 1 + i + 1 by omega] at this
          exact this) (fun δ st hi => he δ st (by rw [List.length_cons, show k + (ds.length + 1) = k + 1 + ds.length by omega]; exact hi))
      cases f with
      | nx δ' => exact next δ' st' q2
      | ct δ' => exact next δ' st' q2
      | bk δ' => exact q2
      | rt r => exact q2
      | ex x δ' => exact q2
end
section
variable {t : GT} {tt : DEnv → M Bool} {te : DEnv → M Rv} {X : Exn → Sto → Prop}
def itemK (r : Rv) (Q : D → Prop) : Prop := match r with
  | .fz y => Q y
  | _ => False
@[simp ↓] theorem itemK_f {d : D} {Q : D → Prop} : itemK (.fz d) Q = Q d := (rfl)
/-- a comprehension by what holds ahead of each turn, of the items made so far -/
theorem wp_compG (I : Nat → List D → Sto → Prop) {δ : DEnv} : ∀ (ds : List D) (k : Nat) (acc : List D) {st : Sto} {Q : List D → Sto → Prop}, I k acc st →
    (∀ (i : Nat) (d : D) (acc : List D) (st : Sto), ds[i]? = some d → I (k + i) acc st → optK (t d δ) fun δ1 => wp (tt δ1 st) (fun b st1 => iteK b (fun _ => wp (te δ1 st1) (fun r st2 => itemK r.frz fun y => guardK (acc.length < LIM) (fun _ => I (k + i + 1) (acc ++ [y]) st2)) noX) (fun _ => I (k + i + 1) acc st1)) noX) →
    (∀ acc st, I (k + ds.length) acc st → Q acc st) → wp (compG t tt te δ ds acc st) Q X
  | [], k, acc, st, Q, h0, hs, he => he acc st h0
  | d :: ds, k, acc, st, Q, h0, hs, he => by
    have h1 := hs 0 d acc st rfl h0
    have next : ∀ acc st, I (k + 0 + 1) acc st → wp (compG t tt te δ ds acc st) Q X := fun acc st hI =>
      wp_compG I ds (k + 1) acc hI (fun i d' acc st hd hi => by
        have := hs (i + 1) d' acc st (by simpa using hd) (by rw [show k + (i + 1) = k + 1 + i by omega]; exact hi)
        rw [show k + (i + 1) + 1 = k + 1 + i + 1 by omega] at this
        exact this) (fun acc st hi => he acc st (by rw [List.length_cons, show k + (ds.length + 1) = k + 1 + ds.length by omega]; exact hi))
    unfold compG
    cases q : t d δ with
    | none => rw [q] at h1; exact h1.elim
    | some δ1 =>
      rw [q] at h1
      dsimp only
      obtain ⟨b, st1, e, q2⟩ := wp_of (show wp (tt δ1 st) _ noX from h1)
      rw [bnd_ok (show noEx (tt δ1) st = some (.ok b, st1) by unfold noEx; rw [e])]
      cases b with
      | false => exact next acc st1 q2
      | true =>
        have q3 : wp (te δ1 st1) _ noX := q2
        obtain ⟨r, st2, e2, q4⟩ := wp_of q3
        rw [if_pos rfl, bnd_ok (show noEx (gFrz te δ1) st1 = some (.ok r.frz, st2) by unfold noEx gFrz; rw [bnd_ok e2]; rfl)]
        cases hr : r.frz with
        | ow c => rw [hr] at q4; exact q4.elim
        | vw j => rw [hr] at q4; exact q4.elim
        | fz y =>
          rw [hr] at q4
          have q5 : guardK (acc.length < LIM) (fun _ => I (k + 0 + 1) (acc ++ [y]) st2) := q4
          dsimp only
          rw [if_pos q5.1]
          exact next _ _ q5.2
/-- each item by itself, nothing else changed -/
theorem wp_compM {δ : DEnv} {f : D → D} {ds : List D} {st : Sto} {Q : List D → Sto → Prop} (hl : ds.length ≤ LIM)
    (hs : ∀ d ∈ ds, optK (t d δ) fun δ1 => wp (tt δ1 st) (fun b st1 => b = true ∧ wp (te δ1 st1) (fun r st2 => r.frz = .fz (f d) ∧ st2 = st) noX) noX) (he : Q (ds.map f) st) : wp (compG t tt te δ ds [] st) Q X := by
  refine wp_compG (fun i acc st' => st' = st ∧ acc = (ds.take i).map f) ds 0 [] ⟨rfl, by simp⟩ (fun i d acc st' hd hi => ?_) (fun acc st' hi => ?_)
  · obtain ⟨rfl, rfl⟩ := hi
    have hm : d ∈ ds := List.mem_of_getElem? hd
    have hil : i < ds.length := (List.getElem?_eq_some_iff.mp hd).1
    have h1 := hs d hm
    cases q : t d δ with
    | none => rw [q] at h1; exact h1.elim
    | some δ1 =>
      rw [q] at h1
      refine wp_mono0 (show wp (tt δ1 st') _ noX from h1) fun b st1 hb => ?_
      obtain ⟨rfl, hb⟩ := hb
      rw [iteK_t]
      refine wp_mono0 hb fun r st2 hr => ?_
      obtain ⟨e, rfl⟩ := hr
      rw [e]
      rw [itemK_f]
      refine guard_i ?_ (And.intro rfl ?_)
      · simp; omega
      rw [List.take_add_one, show ds[0 + i]? = some d by rw [Nat.zero_add]; exact hd]
      simp
  · obtain ⟨rfl, rfl⟩ := hi
    rw [Nat.zero_add, List.take_length]
    exact he
end
end DL

/-! DM3: the laws' bag; small facts. -/
namespace DL
open PySem PySem.Spec PyProof.Rows L2 TL
set_option autoImplicit false
def bagC (cs : List Int) (i a s t : Int) : Con := .lst [.lst (cs.map .int), .int i, .int a, .int s, .int t]
def Bag (st : Sto) : Prop := ∃ cs i a s t, 0 ≤ i ∧ st = [some (bagC cs i a s t)]
@[simp] theorem atI0 {α : Type} {l : List α} : atI l (0 : Int) = l[0]? := atI_nat (k := 0)
@[simp] theorem atI1 {α : Type} {l : List α} : atI l (1 : Int) = l[1]? := atI_nat (k := 1)
@[simp] theorem atI2 {α : Type} {l : List α} : atI l (2 : Int) = l[2]? := atI_nat (k := 2)
@[simp] theorem atI3 {α : Type} {l : List α} : atI l (3 : Int) = l[3]? := atI_nat (k := 3)
@[simp] theorem atI4 {α : Type} {l : List α} : atI l (4 : Int) = l[4]? := atI_nat (k := 4)
theorem setIx_nat {ds : List D} {k : Nat} {d : D} (h : k < ds.length) : setIx ds (k : Int) d = some (ds.set k d) := by
  unfold setIx ixN
  rw [if_pos (by omega), if_pos (by omega)]; simp
@[simp] theorem setIx5_1 {a b c d e x : D} : setIx [a, b, c, d, e] 1 x = some [a, x, c, d, e] := (rfl)
@[simp] theorem setIx5_2 {a b c d e x : D} : setIx [a, b, c, d, e] 2 x = some [a, b, x, d, e] := (rfl)
@[simp] theorem setIx5_3 {a b c d e x : D} : setIx [a, b, c, d, e] 3 x = some [a, b, c, x, e] := (rfl)
@[simp] theorem setIx5_4 {a b c d e x : D} : setIx [a, b, c, d, e] 4 x = some [a, b, c, d, x] := (rfl)
theorem lim_v : LIM = 16777216 := rfl
/-- few items: no list of the laws is longer -/
theorem small_lim {n : Nat} (h : n ≤ 16777216) : n ≤ LIM := h
@[simp] theorem ofNat_lim {n : Nat} : (n ≤ LIM) = (n ≤ 16777216) := propext (by unfold LIM; exact Iff.rfl)
@[simp] theorem ofNat_lim' {n : Nat} : (n < LIM) = (n < 16777216) := propext (by unfold LIM; exact Iff.rfl)
theorem divOk_of {j : Int} (h : 0 < j) (h2 : j < 2 ^ 64) : divOk j = true := by
  unfold divOk
  rw [decide_eq_true_eq]
  refine ⟨h, ?_⟩
  have hn : j.natAbs < 2 ^ 64 := by omega
  have h0 : j.natAbs ≠ 0 := by omega
  have : j.natAbs.log2 < 64 := (Nat.log2_lt h0).mpr hn
  omega
theorem bls_mapf {α : Type} (f : α → Bool) (l : List α) : bls? (l.map fun a => D.bl (f a)) = some (l.map f) := by
  have := bls_map (l.map f)
  rw [List.map_map] at this
  exact this
theorem strs_mapf {α : Type} (f : α → List Nat) (l : List α) : strs? (l.map fun a => D.str (f a)) = some (l.map f) := by
  have := strs_map (l.map f)
  rw [List.map_map] at this
  exact this
theorem ints_mapf {α : Type} (f : α → Int) (l : List α) : ints? (l.map fun a => D.int (f a)) = some (l.map f) := by
  have := ints_map (l.map f)
  rw [List.map_map] at this
  exact this
theorem range_len (lo : Int) (n : Nat) : (rangeD lo n).length = n := by simp [rangeD]
theorem range_at {lo : Int} {n i : Nat} {d : D} (h : (rangeD lo n)[i]? = some d) : i < n ∧ d = .int (lo + i) := by
  unfold rangeD at h
  rw [List.getElem?_map] at h
  by_cases hi : i < n
  · rw [List.getElem?_range hi] at h
    exact ⟨hi, (Option.some.inj h).symm⟩
  · rw [List.getElem?_eq_none (by simpa using hi)] at h; cases h
/-- a text of single signs, joined by nothing -/
theorem join_nil : ∀ ss : List (List Nat), joinL [] ss = ss.flatten
  | [] => rfl
  | [p] => by simp [joinL]
  | p :: q :: r => by rw [joinL, join_nil (q :: r)]; simp
section
variable {δ : DEnv} {st : Sto} {Q : Rv → Sto → Prop} {X : Exn → Sto → Prop} {a b : Bool} {c : Nat} {s t : List Nat} {ds : List D} {d : D}
@[simp ↓] theorem wp_in_s : wp (kIn false δ (.fz (.str [c])) (.fz (.str t)) st) Q X = Q (.fz (.bl (decide (c ∈ t)))) st := by
  show wp (rbv (xor false (decide (c ∈ t))) st) Q X = _
  rw [Bool.false_xor]; rfl
@[simp ↓] theorem wp_notin_s : wp (kIn true δ (.fz (.str [c])) (.fz (.str t)) st) Q X = Q (.fz (.bl (!decide (c ∈ t)))) st := by
  show wp (rbv (xor true (decide (c ∈ t))) st) Q X = _
  rw [Bool.true_xor]; rfl
theorem shaped_b (a : Bool) : SeqAt.shaped (.bool a) = true := by cases a <;> decide +kernel
/-! isinstance -/
theorem wp_isi1 {n : String} (h : n ∈ tyNames ∧ n ≠ "NoneType") : wp (kIsi δ [.fz d, .fz (.ty n)] st) Q X = optK d.tyN fun t => Q (.fz (.bl (isA t n))) st := by
  show wp (opt d.tyN (fun t => if n ∈ tyNames ∧ n ≠ "NoneType" then rbv (isA t n) else fail) st) Q X = _
  rw [wp_opt0]
  refine optK_cg fun t => ?_
  rw [if_pos h]; rfl
@[simp ↓] theorem wp_isi_list : wp (kIsi δ [.fz d, .fz (.ty "list")] st) Q X = optK d.tyN fun t => Q (.fz (.bl (isA t "list"))) st := wp_isi1 (by decide)
@[simp ↓] theorem wp_isi_tuple : wp (kIsi δ [.fz d, .fz (.ty "tuple")] st) Q X = optK d.tyN fun t => Q (.fz (.bl (isA t "tuple"))) st := wp_isi1 (by decide)
@[simp ↓] theorem wp_isi_int : wp (kIsi δ [.fz d, .fz (.ty "int")] st) Q X = optK d.tyN fun t => Q (.fz (.bl (isA t "int"))) st := wp_isi1 (by decide)
@[simp ↓] theorem wp_isi_str : wp (kIsi δ [.fz d, .fz (.ty "str")] st) Q X = optK d.tyN fun t => Q (.fz (.bl (isA t "str"))) st := wp_isi1 (by decide)
@[simp ↓] theorem wp_isi_bool : wp (kIsi δ [.fz d, .fz (.ty "bool")] st) Q X = optK d.tyN fun t => Q (.fz (.bl (isA t "bool"))) st := wp_isi1 (by decide)
@[simp ↓] theorem wp_isi_dict : wp (kIsi δ [.fz d, .fz (.ty "dict")] st) Q X = optK d.tyN fun t => Q (.fz (.bl (isA t "dict"))) st := wp_isi1 (by decide)
@[simp ↓] theorem wp_isi_lt : wp (kIsi δ [.fz d, .fz (.tup [.ty "list", .ty "tuple"])] st) Q X = optK d.tyN fun t => Q (.fz (.bl (isA t "list" || isA t "tuple"))) st := by
  show wp (opt d.tyN (fun t => opt (tys? [.ty "list", .ty "tuple"]) fun ns => rbv (ns.any (isA t))) st) Q X = _
  rw [wp_opt0]
  refine optK_cg fun t => ?_
  rw [show tys? [.ty "list", .ty "tuple"] = some ["list", "tuple"] from rfl]
  show Q (.fz (.bl (["list", "tuple"].any (isA t)))) st = _
  simp
@[simp] theorem tyN_l : D.tyN (.lst ds) = some "list" := (rfl)
@[simp] theorem tyN_t : D.tyN (.tup ds) = some "tuple" := (rfl)
@[simp] theorem tyN_i {i : Int} : D.tyN (.int i) = some "int" := (rfl)
@[simp] theorem tyN_b : D.tyN (.bl b) = some "bool" := (rfl)
@[simp] theorem tyN_s : D.tyN (.str s) = some "str" := (rfl)
@[simp] theorem tyN_n : D.tyN .non = some "NoneType" := (rfl)
@[simp] theorem isA_bl : isA "bool" "bool" = true := by decide
@[simp] theorem isA_bi : isA "bool" "int" = true := by decide
@[simp] theorem isA_ii : isA "int" "int" = true := by decide
@[simp] theorem isA_ib : isA "int" "bool" = false := by decide
@[simp] theorem isA_is : isA "int" "str" = false := by decide
@[simp] theorem isA_bs : isA "bool" "str" = false := by decide
@[simp] theorem isA_ss : isA "str" "str" = true := by decide
@[simp] theorem isA_si : isA "str" "int" = false := by decide
@[simp] theorem isA_sb : isA "str" "bool" = false := by decide
@[simp] theorem isA_sl : isA "str" "list" = false := by decide
@[simp] theorem isA_st : isA "str" "tuple" = false := by decide
@[simp] theorem isA_il : isA "int" "list" = false := by decide
@[simp] theorem isA_it : isA "int" "tuple" = false := by decide
@[simp] theorem isA_bll : isA "bool" "list" = false := by decide
@[simp] theorem isA_blt : isA "bool" "tuple" = false := by decide
@[simp] theorem isA_nl : isA "NoneType" "list" = false := by decide
@[simp] theorem isA_nt : isA "NoneType" "tuple" = false := by decide
@[simp] theorem isA_ll : isA "list" "list" = true := by decide
@[simp] theorem isA_lt : isA "list" "tuple" = false := by decide
@[simp] theorem isA_tl : isA "tuple" "list" = false := by decide
@[simp] theorem isA_tt : isA "tuple" "tuple" = true := by decide
@[simp] theorem isA_ls : isA "list" "str" = false := by decide
@[simp] theorem isA_li : isA "list" "int" = false := by decide
@[simp] theorem isA_ts : isA "tuple" "str" = false := by decide
@[simp] theorem isA_ti : isA "tuple" "int" = false := by decide
/-! is -/
@[simp ↓] theorem wp_is_non : wp (kIs false δ (.fz d) (.fz .non) st) Q X = Q (.fz (.bl (Rv.isNon (.fz d)))) st := by
  cases d <;> rfl
@[simp ↓] theorem wp_isnot_non : wp (kIs true δ (.fz d) (.fz .non) st) Q X = Q (.fz (.bl (!Rv.isNon (.fz d)))) st := by
  cases d <;> rfl
@[simp] theorem isNon_n : Rv.isNon (.fz .non) = true := (rfl)
@[simp] theorem isNon_i {i : Int} : Rv.isNon (.fz (.int i)) = false := (rfl)
@[simp] theorem isNon_b : Rv.isNon (.fz (.bl b)) = false := (rfl)
@[simp] theorem isNon_s : Rv.isNon (.fz (.str s)) = false := (rfl)
@[simp] theorem isNon_l : Rv.isNon (.fz (.lst ds)) = false := (rfl)
@[simp] theorem isNon_t : Rv.isNon (.fz (.tup ds)) = false := (rfl)
end
/-- plain data of at most n levels -/
def plB : Nat → D → Bool
  | 0, _ => false
  | _ + 1, .non => true
  | _ + 1, .bl _ => true
  | _ + 1, .int _ => true
  | _ + 1, .str _ => true
  | n + 1, .lst ds => decide (ds.length ≤ 16777216) && ds.all (plB n)
  | n + 1, .tup ds => decide (ds.length ≤ 16777216) && ds.all (plB n)
  | _, _ => false
/-- a text of small letters -/
def letters : List Nat := [97, 98, 99, 100, 101, 102, 103, 104, 105, 106, 107, 108, 109, 110, 111, 112, 113, 114, 115, 116, 117, 118, 119, 120, 121, 122]
theorem mem_letters (c : Nat) : c ∈ letters ↔ 97 ≤ c ∧ c ≤ 122 := by
  unfold letters
  simp only [List.mem_cons, List.not_mem_nil, or_false]
  omega
theorem lt_one (a b : Nat) : decide ([a] < [b]) = decide (a < b) := by
  apply dec_iff
  constructor
  · intro h
    cases h with
    | rel h => exact h
    | cons h => cases h
  · exact fun h => .rel h
theorem flat_one : ∀ w : List Nat, (w.map fun c => [c]).flatten = w
  | [] => rfl
  | a :: l => by rw [List.map_cons, List.flatten_cons, flat_one l]; rfl
@[simp] theorem join_one (w : List Nat) : joinL [] (w.map fun c => [c]) = w := by rw [join_nil, flat_one]
@[simp] theorem sum_one : ∀ w : List Nat, (List.map (List.length ∘ fun c => [c]) w).sum = w.length
  | [] => rfl
  | a :: l => by rw [List.map_cons, List.sum_cons, sum_one l, List.length_cons]; show 1 + l.length = l.length + 1; omega
@[simp] theorem sum_ones {α : Type} : ∀ w : List α, (List.map (fun _ => 1) w).sum = w.length
  | [] => rfl
  | a :: l => by rw [List.map_cons, List.sum_cons, sum_ones l, List.length_cons]; omega
/-- the sign at a place -/
def nth (s : List Nat) (i : Nat) : Nat := s.getD i 0
theorem at_ok {s : List Nat} {i : Nat} (h : i < s.length) : s[i]? = some (nth s i) := by
  unfold nth
  rw [List.getElem?_eq_getElem h, List.getD_eq_getElem?_getD, List.getElem?_eq_getElem h]; rfl
@[simp] theorem all_true {α : Type} (l : List α) : (l.all fun _ => true) = true := List.all_eq_true.mpr fun _ _ => rfl
theorem okR_ok {j : Int} (h : -4611686018427387904 ≤ j) (h2 : j < 4611686018427387904) : okR j = true := by
  unfold okR
  rw [decide_eq_true_eq]
  exact ⟨h, h2⟩
/-- by place: the items of a range -/
theorem wp_compR {t : GT} {tt : DEnv → M Bool} {te : DEnv → M Rv} {X : Exn → Sto → Prop} {δ : DEnv} {f : Nat → D} {lo : Int} {n : Nat} {st : Sto} {Q : List D → Sto → Prop} (hl : n ≤ 16777216)
    (hs : ∀ i : Nat, i < n → optK (t (.int (lo + i)) δ) fun δ1 => wp (tt δ1 st) (fun b st1 => b = true ∧ wp (te δ1 st1) (fun r st2 => r.frz = .fz (f i) ∧ st2 = st) noX) noX) (he : Q ((List.range n).map f) st) : wp (compG t tt te δ (rangeD lo n) [] st) Q X := by
  refine wp_compG (fun i acc st' => st' = st ∧ acc = (List.range i).map f) _ 0 [] ⟨rfl, rfl⟩ (fun i d acc st' hd hi => ?_) (fun acc st' hi => ?_)
  · obtain ⟨rfl, rfl⟩ := hi
    obtain ⟨hi, rfl⟩ := range_at hd
    have h1 := hs i hi
    cases q : t (.int (lo + i)) δ with
    | none => rw [q] at h1; exact h1.elim
    | some δ1 =>
      rw [q] at h1
      refine wp_mono0 (show wp (tt δ1 st') _ noX from h1) fun b st1 hb => ?_
      obtain ⟨rfl, hb⟩ := hb
      rw [iteK_t]
      refine wp_mono0 hb fun r st2 hr => ?_
      obtain ⟨e, rfl⟩ := hr
      rw [e]
      rw [itemK_f]
      refine guard_i ?_ (And.intro rfl ?_)
      · simp; omega
      rw [Nat.zero_add, List.range_succ, List.map_append]; rfl
  · obtain ⟨rfl, rfl⟩ := hi
    rw [Nat.zero_add, range_len]
    exact he
section
variable {δ : DEnv} {st : Sto} {Q : Rv → Sto → Prop} {X : Exn → Sto → Prop} {s : List Nat} {ds es : List D} {n : Nat}
@[simp ↓] theorem wp_listA_s (h : s.length ≤ LIM) : wp (kListA δ [.fz (.str s)] st) Q X = Q (.ow (.lst (chrD s))) st := by
  show wp ((if s.length ≤ LIM then ret (.ow (.lst (chrD s))) else fail) st) Q X = _
  rw [if_pos h]; rfl
@[simp ↓] theorem wp_listA_o : wp (kListA δ [.ow (.lst ds)] st) Q X = Q (.ow (.lst ds)) st := (rfl)
@[simp ↓] theorem wp_listA_l : wp (kListA δ [.fz (.lst ds)] st) Q X = Q (.ow (.lst ds)) st := (rfl)
@[simp ↓] theorem wp_listA_t : wp (kListA δ [.fz (.tup ds)] st) Q X = Q (.ow (.lst ds)) st := (rfl)
@[simp ↓] theorem wp_listA_r : wp (kListA δ [.fz (.rol ds)] st) Q X = Q (.ow (.lst ds)) st := (rfl)
@[simp ↓] theorem wp_listA_v : wp (kListA δ [.vw n] st) Q X = optK (ownL δ n) fun ds => Q (.ow (.lst ds)) st := by
  show wp (opt (Rv.asQ δ st (.vw n)) (fun ds => ret (.ow (.lst ds))) st) Q X = _
  rw [wp_opt, asQ_vw]; rfl
theorem ints_strs : ∀ {ss : List (List Nat)}, ss ≠ [] → ints? (ss.map D.str) = none
  | [], h => absurd rfl h
  | s :: ss, _ => rfl
/-- texts sorted -/
theorem wp_sortS {x : Rv} {ss : List (List Nat)} (h : x.asR δ st = some (ss.map D.str)) (hl : ss.length < 64) (hQ : Q (.ow (.lst ((isort leS ss).map D.str))) st) : wp (kSorted δ [x] st) Q X := by
  by_cases e : ss = []
  · subst e
    have e2 : isInts δ [x] st = true := by
      show ((x.asR δ st).bind ints?).isSome = true
      rw [h]; rfl
    show wp (if isInts δ [x] st then kSortI δ [x] st else kSortS δ [x] st) Q X
    rw [if_pos e2]
    show wp (opt (x.asR δ st) (fun ds => opt (ints? ds) fun ns => ret (.ow (.lst ((isort leI ns).map D.int)))) st) Q X
    rw [wp_opt0, h]
    exact hQ
  · have e2 : isInts δ [x] st = false := by
      show ((x.asR δ st).bind ints?).isSome = false
      rw [h]
      show (ints? (ss.map D.str)).isSome = false
      rw [ints_strs e]; rfl
    show wp (if isInts δ [x] st then kSortI δ [x] st else kSortS δ [x] st) Q X
    rw [e2, if_neg Bool.false_ne_true]
    show wp (opt (x.asR δ st) (fun ds => opt (strs? ds) fun ns => if ns.length < 64 then ret (.ow (.lst ((isort leS ns).map D.str))) else fail) st) Q X
    rw [wp_opt0, h]
    show wp (opt (strs? (ss.map D.str)) (fun ns => if ns.length < 64 then ret (.ow (.lst ((isort leS ns).map D.str))) else fail) st) Q X
    rw [wp_opt0, strs_map]
    show wp ((if ss.length < 64 then ret (.ow (.lst ((isort leS ss).map D.str))) else fail) st) Q X
    rw [if_pos hl]
    exact hQ
theorem chr_strs (w : List Nat) : chrD w = (w.map fun c => [c]).map D.str := by unfold chrD; rw [List.map_map]; rfl
/-- single signs, sorted, are single signs -/
theorem sort_ones (w : List Nat) : ∃ v : List Nat, isort leS (w.map fun c => [c]) = v.map (fun c => [c]) ∧ v.length = w.length ∧ ∀ c ∈ v, c ∈ w := by
  have p := isort_perm leS (w.map fun c => [c])
  have hm : ∀ x ∈ isort leS (w.map fun c => [c]), ∃ c ∈ w, x = [c] := fun x hx => by
    obtain ⟨c, hc, e⟩ := List.mem_map.mp (p.mem_iff.mp hx)
    exact ⟨c, hc, e.symm⟩
  have key : ∀ l : List (List Nat), (∀ x ∈ l, ∃ c ∈ w, x = [c]) → ∃ v : List Nat, l = v.map (fun c => [c]) ∧ ∀ c ∈ v, c ∈ w := fun l => by
    induction l with
    | nil => exact fun _ => ⟨[], rfl, by simp⟩
    | cons x l ih =>
      intro h
      obtain ⟨v, e, hv⟩ := ih fun y hy => h y (List.mem_cons_of_mem _ hy)
      obtain ⟨c, hc, rfl⟩ := h x List.mem_cons_self
      exact ⟨c :: v, by rw [e]; rfl, fun d hd => by
        rcases List.mem_cons.mp hd with rfl | hd
        · exact hc
        · exact hv d hd⟩
  obtain ⟨v, e, hv⟩ := key _ hm
  refine ⟨v, e, ?_, hv⟩
  have := p.length_eq
  rw [e, List.length_map, List.length_map] at this
  exact this
end
@[simp] theorem strs_comp {α : Type} (f : α → List Nat) (l : List α) : strs? (l.map (D.str ∘ f)) = some (l.map f) := strs_mapf f l
@[simp] theorem bls_comp {α : Type} (f : α → Bool) (l : List α) : bls? (l.map (D.bl ∘ f)) = some (l.map f) := bls_mapf f l
@[simp] theorem ints_comp {α : Type} (f : α → Int) (l : List α) : ints? (l.map (D.int ∘ f)) = some (l.map f) := ints_mapf f l
/-- two names at once -/
def parK (i j : Nat) (rs : Option (List D)) (δ : DEnv) (st : Sto) (R : Fl → Sto → Prop) : Prop := match rs with
  | some [d, e] => R (.nx ((δ.set i (some (.fz d))).set j (some (.fz e)))) st
  | _ => False
@[simp ↓] theorem parK_2 {i j : Nat} {d e : D} {δ : DEnv} {st : Sto} {R : Fl → Sto → Prop} : parK i j (some [d, e]) δ st R = goK ((δ.set i (some (.fz d))).set j (some (.fz e))) (hold (q := ⟨fun δ' => R (.nx δ') st⟩)) := (rfl)
@[simp ↓] theorem wpS_par {i j : Nat} {gs : DEnv → M (List Rv)} {δ : DEnv} {st : Sto} {R : Fl → Sto → Prop} : wpS (sPar i j gs δ st) R = wp (gs δ st) (hold (q := ⟨fun rs st1 => parK i j (allD rs) δ st1 (hold (q := ⟨R⟩))⟩)) (hold (q := ⟨fun x st1 => R (.ex x δ) st1⟩)) := by
  unfold sPar
  rw [wpS_bnd0]
  refine wp_cg fun rs st1 => ?_
  simp only [hold_2]
  unfold parK
  match allD rs with
  | none => rfl
  | some [] => rfl
  | some [_] => rfl
  | some [_, _] => rfl
  | some (_ :: _ :: _ :: _) => rfl
def ownTK (r : Rv) (Q : List D → Prop) : Prop := match r with
  | .ow (.lst ds) => Q ds
  | _ => False
@[simp ↓] theorem ownTK_l {ds : List D} {Q : List D → Prop} : ownTK (.ow (.lst ds)) Q = Q ds := (rfl)
@[simp ↓] theorem wpS_ownT {ga : DEnv → M Rv} {gs : DEnv → M (List Rv)} {f : List D → List D → Option (List D)} {δ : DEnv} {st : Sto} {R : Fl → Sto → Prop} : wpS (sOwnT ga gs f δ st) R = wp (ga δ st) (hold (q := ⟨fun r st1 => ownTK r (hold (q := ⟨fun ds => wp (gs δ st1) (hold (q := ⟨fun rs st2 => optK ((allD rs).bind (f ds)) (hold (q := ⟨fun _ => R (.nx δ) st2⟩))⟩)) (hold (q := ⟨fun x st2 => R (.ex x δ) st2⟩))⟩))⟩)) (hold (q := ⟨fun x st1 => R (.ex x δ) st1⟩)) := by
  unfold sOwnT
  rw [wpS_bnd0]
  refine wp_cg fun r st1 => ?_
  simp only [hold_2]
  match r with
  | .ow (.lst ds) =>
    rw [ownTK_l, hold_1]
    show wpS (sBnd (gs δ) δ _ st1) R = _
    rw [wpS_bnd0]
    refine wp_cg fun rs st2 => ?_
    simp only [hold_2]
    cases ((allD rs).bind (f ds)) <;> rfl
  | .ow (.dk _) => rfl
  | .ow (.dt _) => rfl
  | .ow (.obj _ _) => rfl
  | .ow (.tbl _ _) => rfl
  | .fz _ => rfl
  | .vw _ => rfl
end DL

/-! DM4: == of plain data evaluated. -/
namespace DL
open PySem PySem.Spec PyProof.Rows L2 TL
set_option autoImplicit false
section
variable {δ : DEnv} {st : Sto} {i : Int} {b : Bool} {s : List Nat} {x y : Rv} {ds es : List D} {d e : D} {n m : Nat} {c : Con} {X : Exn → Sto → Prop} {Q : Rv → Sto → Prop}
@[simp] theorem asI_l : (Rv.fz (.lst ds)).asI = none := (rfl)
@[simp] theorem asI_t : (Rv.fz (.tup ds)).asI = none := (rfl)
@[simp] theorem asI_s : (Rv.fz (.str s)).asI = none := (rfl)
@[simp] theorem asI_n : (Rv.fz .non).asI = none := (rfl)
@[simp] theorem asI_b : (Rv.fz (.bl b)).asI = none := (rfl)
@[simp] theorem asI_o : (Rv.ow c).asI = none := (rfl)
@[simp] theorem asI_vw : (Rv.vw n).asI = none := (rfl)
@[simp] theorem asI_c : (Rv.fz (.loc n)).asI = none := (rfl)
@[simp] theorem asS_l : (Rv.fz (.lst ds)).asS = none := (rfl)
@[simp] theorem asS_t : (Rv.fz (.tup ds)).asS = none := (rfl)
@[simp] theorem asS_i : (Rv.fz (.int i)).asS = none := (rfl)
@[simp] theorem asS_n : (Rv.fz .non).asS = none := (rfl)
@[simp] theorem asS_b : (Rv.fz (.bl b)).asS = none := (rfl)
@[simp] theorem asS_o : (Rv.ow c).asS = none := (rfl)
@[simp] theorem asS_vw : (Rv.vw n).asS = none := (rfl)
@[simp] theorem asS_c : (Rv.fz (.loc n)).asS = none := (rfl)
@[simp] theorem isII_eq : isII δ x y = (x.asI.isSome && y.asI.isSome) := (rfl)
@[simp] theorem isSS_eq : isSS δ x y = (x.asS.isSome && y.asS.isSome) := (rfl)
@[simp] theorem dat_fz : Rv.dat δ (.fz d) = some d := (rfl)
@[simp] theorem dat_ow : Rv.dat δ (.ow c) = some c.fz := (rfl)
@[simp] theorem dat_vw : Rv.dat δ (.vw n) = (ownAt δ n).map Con.fz := (rfl)
@[simp] theorem ownAt_0o {l : DEnv} : ownAt (some (.ow c) :: l) 0 = some c := (rfl)
@[simp] theorem ownAt_0f {l : DEnv} : ownAt (some (.fz d) :: l) 0 = none := (rfl)
@[simp] theorem ownAt_s {a : Option SV} {l : DEnv} : ownAt (a :: l) (n + 1) = ownAt l n := by
  unfold ownAt
  rw [List.getElem?_cons_succ]
/-! plain -/
@[simp] theorem okd_non : D.ok n .non = true := by cases n <;> rfl
@[simp] theorem okd_bl : D.ok n (.bl b) = true := by cases n <;> rfl
@[simp] theorem okd_int : D.ok n (.int i) = true := by cases n <;> rfl
@[simp] theorem okd_str : D.ok n (.str s) = s.all fun c => decide (c < 1114112) := by cases n <;> rfl
@[simp] theorem okd_tup : D.ok (n + 1) (.tup ds) = ds.all (D.ok n) := (rfl)
@[simp] theorem okd_lst : D.ok (n + 1) (.lst ds) = ds.all (D.ok n) := (rfl)
/-! equal -/
@[simp] theorem deq_nn : deq .non .non = true := by simp [deq]
@[simp] theorem deq_nb : deq .non (.bl b) = false := by simp [deq]
@[simp] theorem deq_ni : deq .non (.int i) = false := by simp [deq]
@[simp] theorem deq_ns : deq .non (.str s) = false := by simp [deq]
@[simp] theorem deq_nt : deq .non (.tup ds) = false := by simp [deq]
@[simp] theorem deq_nl : deq .non (.lst ds) = false := by simp [deq]
@[simp] theorem deq_bb {b' : Bool} : deq (.bl b) (.bl b') = (b == b') := by simp [deq]
@[simp] theorem deq_bi : deq (.bl b) (.int i) = decide (ib b = i) := by simp [deq]
@[simp] theorem deq_bn : deq (.bl b) .non = false := by simp [deq]
@[simp] theorem deq_bs : deq (.bl b) (.str s) = false := by simp [deq]
@[simp] theorem deq_bt : deq (.bl b) (.tup ds) = false := by simp [deq]
@[simp] theorem deq_bl' : deq (.bl b) (.lst ds) = false := by simp [deq]
@[simp] theorem deq_ii {j : Int} : deq (.int i) (.int j) = decide (i = j) := by simp [deq]
@[simp] theorem deq_ib : deq (.int i) (.bl b) = decide (i = ib b) := by simp [deq]
@[simp] theorem deq_in : deq (.int i) .non = false := by simp [deq]
@[simp] theorem deq_is : deq (.int i) (.str s) = false := by simp [deq]
@[simp] theorem deq_it : deq (.int i) (.tup ds) = false := by simp [deq]
@[simp] theorem deq_il : deq (.int i) (.lst ds) = false := by simp [deq]
@[simp] theorem deq_ss {t : List Nat} : deq (.str s) (.str t) = decide (s = t) := by simp [deq]
@[simp] theorem deq_sn : deq (.str s) .non = false := by simp [deq]
@[simp] theorem deq_sb : deq (.str s) (.bl b) = false := by simp [deq]
@[simp] theorem deq_si : deq (.str s) (.int i) = false := by simp [deq]
@[simp] theorem deq_st : deq (.str s) (.tup ds) = false := by simp [deq]
@[simp] theorem deq_sl : deq (.str s) (.lst ds) = false := by simp [deq]
@[simp] theorem deq_tt : deq (.tup ds) (.tup es) = deqs ds es := by simp [deq]
@[simp] theorem deq_tn : deq (.tup ds) .non = false := by simp [deq]
@[simp] theorem deq_ti : deq (.tup ds) (.int i) = false := by simp [deq]
@[simp] theorem deq_tb : deq (.tup ds) (.bl b) = false := by simp [deq]
@[simp] theorem deq_ts : deq (.tup ds) (.str s) = false := by simp [deq]
@[simp] theorem deq_tl : deq (.tup ds) (.lst es) = false := by simp [deq]
@[simp] theorem deq_ll : deq (.lst ds) (.lst es) = deqs ds es := by simp [deq]
@[simp] theorem deq_ln : deq (.lst ds) .non = false := by simp [deq]
@[simp] theorem deq_li : deq (.lst ds) (.int i) = false := by simp [deq]
@[simp] theorem deq_lb : deq (.lst ds) (.bl b) = false := by simp [deq]
@[simp] theorem deq_ls : deq (.lst ds) (.str s) = false := by simp [deq]
@[simp] theorem deq_lt : deq (.lst ds) (.tup es) = false := by simp [deq]
@[simp] theorem deqs_nn : deqs [] [] = true := by simp [deqs]
@[simp] theorem deqs_nc : deqs [] (e :: es) = false := by simp [deqs]
@[simp] theorem deqs_cn : deqs (d :: ds) [] = false := by simp [deqs]
@[simp] theorem deqs_cc : deqs (d :: ds) (e :: es) = (deq d e && deqs ds es) := by simp [deqs]
theorem deqs_nil : deqs ds [] = decide (ds = []) := by cases ds <;> simp
end
mutual
theorem deq_refl : ∀ {n : Nat} {d : D}, D.ok n d = true → deq d d = true
  | n, .non, _ => by simp
  | n, .bl _, _ => by simp
  | n, .int _, _ => by simp
  | n, .str _, _ => by simp
  | n + 1, .tup ds, h => by simp at h; simp; exact deqs_refl h
  | n + 1, .lst ds, h => by simp at h; simp; exact deqs_refl h
  | 0, .tup _, h => by cases h
  | 0, .lst _, h => by cases h
  | 0, .rol _, h => by cases h
  | 0, .obj _ _, h => by cases h
  | 0, .dk _, h => by cases h
  | 0, .dt _, h => by cases h
  | 0, .loc _, h => by cases h
  | 0, .ty _, h => by cases h
  | 0, .exc _ _, h => by cases h
  | 0, .tab _ _, h => by cases h
  | n + 1, .rol _, h => by cases h
  | n + 1, .obj _ _, h => by cases h
  | n + 1, .dk _, h => by cases h
  | n + 1, .dt _, h => by cases h
  | n + 1, .loc _, h => by cases h
  | n + 1, .ty _, h => by cases h
  | n + 1, .exc _ _, h => by cases h
  | n + 1, .tab _ _, h => by cases h
theorem deqs_refl : ∀ {n : Nat} {ds : List D}, (∀ x ∈ ds, D.ok n x = true) → deqs ds ds = true
  | n, [], _ => by simp
  | n, d :: ds, h => by
    rw [deqs_cc, Bool.and_eq_true]
    exact ⟨deq_refl (h d (by simp)), deqs_refl fun x hx => h x (by simp [hx])⟩
end
/-- an encoding whose == is = -/
theorem deqs_map {α : Type} [DecidableEq α] {f : α → D} (hf : ∀ a b, deq (f a) (f b) = decide (a = b)) : ∀ (l m : List α), deqs (l.map f) (m.map f) = decide (l = m)
  | [], [] => by simp
  | [], b :: m => by simp
  | a :: l, [] => by simp
  | a :: l, b :: m => by
    simp [hf, deqs_map hf l m]
section
variable {δ : DEnv} {st : Sto} {i : Int} {b c : Bool} {s : List Nat} {x y : Rv} {ds es : List D} {d e : D} {n m : Nat} {X : Exn → Sto → Prop} {Q : Rv → Sto → Prop}
theorem kEq'_P (h : (isII δ x y || isSS δ x y) = false) : kEq' b δ x y = kEqP b δ x y := by
  rw [Bool.or_eq_false_iff] at h
  unfold kEq' kOr
  rw [h.1, h.2]
  rfl
theorem wp_eqP0 : wp (kEqP b δ x y st) Q X = optK (x.dat δ) (hold (q := ⟨fun d => optK (y.dat δ) (hold (q := ⟨fun e => guardK ((D.ok 64 d && D.ok 64 e) = true) (hold (q := ⟨fun _ => Q (.fz (.bl (xor b (deq d e)))) st⟩))⟩))⟩)) := by
  unfold kEqP
  rw [wp_opt0]
  refine optK_cg fun d => ?_
  try simp only [hold_1, hold_2]
  rw [wp_opt0]
  refine optK_cg fun e => ?_
  try simp only [hold_1, hold_2]
  rw [wp_ite]
  unfold guardK
  split
  · rename_i h; exact propext ⟨fun z => ⟨h, z⟩, fun z => z.2⟩
  · rename_i h; exact propext ⟨fun z => False.elim z, fun z => absurd z.1 h⟩
theorem wp_eqP (h : (isII δ x y || isSS δ x y) = false) : wp (kEq' b δ x y st) Q X = optK (x.dat δ) (hold (q := ⟨fun d => optK (y.dat δ) (hold (q := ⟨fun e => guardK ((D.ok 64 d && D.ok 64 e) = true) (hold (q := ⟨fun _ => Q (.fz (.bl (xor b (deq d e)))) st⟩))⟩))⟩)) := by
  rw [kEq'_P h, wp_eqP0]
variable {cc : Con}
@[simp ↓] theorem wp_eqP_n : wp (kEq' b δ (.fz .non) y st) Q X = optK (Rv.dat δ (.fz .non)) (hold (q := ⟨fun d => optK (y.dat δ) (hold (q := ⟨fun e => guardK ((D.ok 64 d && D.ok 64 e) = true) (hold (q := ⟨fun _ => Q (.fz (.bl (xor b (deq d e)))) st⟩))⟩))⟩)) := wp_eqP rfl
@[simp ↓] theorem wp_eqP_b : wp (kEq' b δ (.fz (.bl c)) y st) Q X = optK (Rv.dat δ (.fz (.bl c))) (hold (q := ⟨fun d => optK (y.dat δ) (hold (q := ⟨fun e => guardK ((D.ok 64 d && D.ok 64 e) = true) (hold (q := ⟨fun _ => Q (.fz (.bl (xor b (deq d e)))) st⟩))⟩))⟩)) := wp_eqP rfl
@[simp ↓] theorem wp_eqP_t : wp (kEq' b δ (.fz (.tup ds)) y st) Q X = optK (Rv.dat δ (.fz (.tup ds))) (hold (q := ⟨fun d => optK (y.dat δ) (hold (q := ⟨fun e => guardK ((D.ok 64 d && D.ok 64 e) = true) (hold (q := ⟨fun _ => Q (.fz (.bl (xor b (deq d e)))) st⟩))⟩))⟩)) := wp_eqP rfl
@[simp ↓] theorem wp_eqP_l : wp (kEq' b δ (.fz (.lst ds)) y st) Q X = optK (Rv.dat δ (.fz (.lst ds))) (hold (q := ⟨fun d => optK (y.dat δ) (hold (q := ⟨fun e => guardK ((D.ok 64 d && D.ok 64 e) = true) (hold (q := ⟨fun _ => Q (.fz (.bl (xor b (deq d e)))) st⟩))⟩))⟩)) := wp_eqP rfl
@[simp ↓] theorem wp_eqP_o : wp (kEq' b δ (.ow cc) y st) Q X = optK (Rv.dat δ (.ow cc)) (hold (q := ⟨fun d => optK (y.dat δ) (hold (q := ⟨fun e => guardK ((D.ok 64 d && D.ok 64 e) = true) (hold (q := ⟨fun _ => Q (.fz (.bl (xor b (deq d e)))) st⟩))⟩))⟩)) := wp_eqP rfl
@[simp ↓] theorem wp_eqP_v : wp (kEq' b δ (.vw n) y st) Q X = optK (Rv.dat δ (.vw n)) (hold (q := ⟨fun d => optK (y.dat δ) (hold (q := ⟨fun e => guardK ((D.ok 64 d && D.ok 64 e) = true) (hold (q := ⟨fun _ => Q (.fz (.bl (xor b (deq d e)))) st⟩))⟩))⟩)) := wp_eqP rfl
@[simp ↓] theorem wp_eqP_in : wp (kEq' b δ (.fz (.int i)) (.fz .non) st) Q X = optK (Rv.dat δ (.fz (.int i))) (hold (q := ⟨fun d => optK (Rv.dat δ (.fz .non)) (hold (q := ⟨fun e => guardK ((D.ok 64 d && D.ok 64 e) = true) (hold (q := ⟨fun _ => Q (.fz (.bl (xor b (deq d e)))) st⟩))⟩))⟩)) := wp_eqP rfl
@[simp ↓] theorem wp_eqP_ib : wp (kEq' b δ (.fz (.int i)) (.fz (.bl c)) st) Q X = optK (Rv.dat δ (.fz (.int i))) (hold (q := ⟨fun d => optK (Rv.dat δ (.fz (.bl c))) (hold (q := ⟨fun e => guardK ((D.ok 64 d && D.ok 64 e) = true) (hold (q := ⟨fun _ => Q (.fz (.bl (xor b (deq d e)))) st⟩))⟩))⟩)) := wp_eqP rfl
@[simp ↓] theorem wp_eqP_is : wp (kEq' b δ (.fz (.int i)) (.fz (.str s)) st) Q X = optK (Rv.dat δ (.fz (.int i))) (hold (q := ⟨fun d => optK (Rv.dat δ (.fz (.str s))) (hold (q := ⟨fun e => guardK ((D.ok 64 d && D.ok 64 e) = true) (hold (q := ⟨fun _ => Q (.fz (.bl (xor b (deq d e)))) st⟩))⟩))⟩)) := wp_eqP rfl
@[simp ↓] theorem wp_eqP_it : wp (kEq' b δ (.fz (.int i)) (.fz (.tup ds)) st) Q X = optK (Rv.dat δ (.fz (.int i))) (hold (q := ⟨fun d => optK (Rv.dat δ (.fz (.tup ds))) (hold (q := ⟨fun e => guardK ((D.ok 64 d && D.ok 64 e) = true) (hold (q := ⟨fun _ => Q (.fz (.bl (xor b (deq d e)))) st⟩))⟩))⟩)) := wp_eqP rfl
@[simp ↓] theorem wp_eqP_il : wp (kEq' b δ (.fz (.int i)) (.fz (.lst ds)) st) Q X = optK (Rv.dat δ (.fz (.int i))) (hold (q := ⟨fun d => optK (Rv.dat δ (.fz (.lst ds))) (hold (q := ⟨fun e => guardK ((D.ok 64 d && D.ok 64 e) = true) (hold (q := ⟨fun _ => Q (.fz (.bl (xor b (deq d e)))) st⟩))⟩))⟩)) := wp_eqP rfl
@[simp ↓] theorem wp_eqP_io : wp (kEq' b δ (.fz (.int i)) (.ow cc) st) Q X = optK (Rv.dat δ (.fz (.int i))) (hold (q := ⟨fun d => optK (Rv.dat δ (.ow cc)) (hold (q := ⟨fun e => guardK ((D.ok 64 d && D.ok 64 e) = true) (hold (q := ⟨fun _ => Q (.fz (.bl (xor b (deq d e)))) st⟩))⟩))⟩)) := wp_eqP rfl
@[simp ↓] theorem wp_eqP_iv : wp (kEq' b δ (.fz (.int i)) (.vw n) st) Q X = optK (Rv.dat δ (.fz (.int i))) (hold (q := ⟨fun d => optK (Rv.dat δ (.vw n)) (hold (q := ⟨fun e => guardK ((D.ok 64 d && D.ok 64 e) = true) (hold (q := ⟨fun _ => Q (.fz (.bl (xor b (deq d e)))) st⟩))⟩))⟩)) := wp_eqP rfl
@[simp ↓] theorem wp_eqP_sn : wp (kEq' b δ (.fz (.str s)) (.fz .non) st) Q X = optK (Rv.dat δ (.fz (.str s))) (hold (q := ⟨fun d => optK (Rv.dat δ (.fz .non)) (hold (q := ⟨fun e => guardK ((D.ok 64 d && D.ok 64 e) = true) (hold (q := ⟨fun _ => Q (.fz (.bl (xor b (deq d e)))) st⟩))⟩))⟩)) := wp_eqP rfl
@[simp ↓] theorem wp_eqP_sb : wp (kEq' b δ (.fz (.str s)) (.fz (.bl c)) st) Q X = optK (Rv.dat δ (.fz (.str s))) (hold (q := ⟨fun d => optK (Rv.dat δ (.fz (.bl c))) (hold (q := ⟨fun e => guardK ((D.ok 64 d && D.ok 64 e) = true) (hold (q := ⟨fun _ => Q (.fz (.bl (xor b (deq d e)))) st⟩))⟩))⟩)) := wp_eqP rfl
@[simp ↓] theorem wp_eqP_si : wp (kEq' b δ (.fz (.str s)) (.fz (.int i)) st) Q X = optK (Rv.dat δ (.fz (.str s))) (hold (q := ⟨fun d => optK (Rv.dat δ (.fz (.int i))) (hold (q := ⟨fun e => guardK ((D.ok 64 d && D.ok 64 e) = true) (hold (q := ⟨fun _ => Q (.fz (.bl (xor b (deq d e)))) st⟩))⟩))⟩)) := wp_eqP rfl
@[simp ↓] theorem wp_eqP_st : wp (kEq' b δ (.fz (.str s)) (.fz (.tup ds)) st) Q X = optK (Rv.dat δ (.fz (.str s))) (hold (q := ⟨fun d => optK (Rv.dat δ (.fz (.tup ds))) (hold (q := ⟨fun e => guardK ((D.ok 64 d && D.ok 64 e) = true) (hold (q := ⟨fun _ => Q (.fz (.bl (xor b (deq d e)))) st⟩))⟩))⟩)) := wp_eqP rfl
@[simp ↓] theorem wp_eqP_sl : wp (kEq' b δ (.fz (.str s)) (.fz (.lst ds)) st) Q X = optK (Rv.dat δ (.fz (.str s))) (hold (q := ⟨fun d => optK (Rv.dat δ (.fz (.lst ds))) (hold (q := ⟨fun e => guardK ((D.ok 64 d && D.ok 64 e) = true) (hold (q := ⟨fun _ => Q (.fz (.bl (xor b (deq d e)))) st⟩))⟩))⟩)) := wp_eqP rfl
@[simp ↓] theorem wp_eqP_so : wp (kEq' b δ (.fz (.str s)) (.ow cc) st) Q X = optK (Rv.dat δ (.fz (.str s))) (hold (q := ⟨fun d => optK (Rv.dat δ (.ow cc)) (hold (q := ⟨fun e => guardK ((D.ok 64 d && D.ok 64 e) = true) (hold (q := ⟨fun _ => Q (.fz (.bl (xor b (deq d e)))) st⟩))⟩))⟩)) := wp_eqP rfl
@[simp ↓] theorem wp_eqP_sv : wp (kEq' b δ (.fz (.str s)) (.vw n) st) Q X = optK (Rv.dat δ (.fz (.str s))) (hold (q := ⟨fun d => optK (Rv.dat δ (.vw n)) (hold (q := ⟨fun e => guardK ((D.ok 64 d && D.ok 64 e) = true) (hold (q := ⟨fun _ => Q (.fz (.bl (xor b (deq d e)))) st⟩))⟩))⟩)) := wp_eqP rfl
end
end DL

/-! DM5: walks over encoded lists; a reading's value as an equation. -/
namespace DL
open PySem PySem.Spec PyProof.Rows L2 TL
set_option autoImplicit false
/-- the value of a reading that changes nothing -/
theorem eq_of_wp {α : Type} {o : Option (Res α × Sto)} {a : α} {st : Sto} (h : wp o (fun r st' => r = a ∧ st' = st) noX) : o = some (.ok a, st) := by
  obtain ⟨r, s, e, rfl, rfl⟩ := wp_of h
  exact e
theorem wp_app {α : Type} {o : Option (Res α × Sto)} {a : α} {st : Sto} {Q : α → Sto → Prop} {X : Exn → Sto → Prop} (e : o = some (.ok a, st)) : wp o Q X = Q a st := by rw [e]; rfl
theorem take_snoc {α : Type} {l : List α} {i : Nat} {x : α} (h : l[i]? = some x) : l.take (i + 1) = l.take i ++ [x] := by
  rw [List.take_add_one, h]; rfl
section
variable {β : Type} {enc : β → D} {t : GT} {body : GS} {R : Fl → Sto → Prop} {tt : DEnv → M Bool} {te : DEnv → M Rv} {X : Exn → Sto → Prop}
/-- after a turn -/
def turnL (I : DEnv → Sto → Prop) (R : Fl → Sto → Prop) : Fl → Sto → Prop
  | .nx δ, st => I δ st
  | .ct δ, st => I δ st
  | .bk δ, st => R (.nx δ) st
  | .rt r, st => R (.rt r) st
  | .ex x δ, st => R (.ex x δ) st
@[simp ↓] theorem turnL_nx {I : DEnv → Sto → Prop} {δ : DEnv} {st : Sto} : turnL I R (.nx δ) st = I δ st := (rfl)
@[simp ↓] theorem turnL_ct {I : DEnv → Sto → Prop} {δ : DEnv} {st : Sto} : turnL I R (.ct δ) st = I δ st := (rfl)
@[simp ↓] theorem turnL_bk {I : DEnv → Sto → Prop} {δ : DEnv} {st : Sto} : turnL I R (.bk δ) st = R (.nx δ) st := (rfl)
@[simp ↓] theorem turnL_rt {I : DEnv → Sto → Prop} {r : Rv} {st : Sto} : turnL I R (.rt r) st = R (.rt r) st := (rfl)
@[simp ↓] theorem turnL_ex {I : DEnv → Sto → Prop} {x : Exn} {δ : DEnv} {st : Sto} : turnL I R (.ex x δ) st = R (.ex x δ) st := (rfl)
/-- a walk over encoded items; pre: those already taken -/
theorem wpS_forL (I : List β → DEnv → Sto → Prop) (bs : List β) {δ : DEnv} {st : Sto} (h0 : I [] δ st)
    (hs : ∀ (pre : List β) (b : β) (post : List β) (δ : DEnv) (st : Sto), bs = pre ++ b :: post → I pre δ st → optK (t (enc b) δ) fun δ1 => wpS (body δ1 st) (turnL (I (pre ++ [b])) R))
    (he : ∀ δ st, I bs δ st → R (.nx δ) st) : wpS (forG t body (bs.map enc) δ st) R := by
  refine wpS_forG (fun k δ st => I (bs.take k) δ st) (bs.map enc) 0 h0 (fun i d δ st hd hI => ?_) (fun δ st hI => ?_)
  · rw [List.getElem?_map] at hd
    obtain ⟨b, hb, rfl⟩ := Option.map_eq_some_iff.mp hd
    rw [Nat.zero_add] at hI ⊢
    obtain ⟨hi, rfl⟩ := List.getElem?_eq_some_iff.mp hb
    have e : bs = bs.take i ++ bs[i] :: bs.drop (i + 1) := by
      rw [← List.drop_eq_getElem_cons hi, List.take_append_drop]
    have h1 := hs _ _ _ δ st e hI
    rw [take_snoc hb]
    cases q : t (enc bs[i]) δ with
    | none => rw [q] at h1; exact h1.elim
    | some δ1 =>
      rw [q] at h1
      refine wpS_mono h1 fun f st' hf => ?_
      cases f <;> exact hf
  · refine he δ st ?_
    rw [Nat.zero_add, List.length_map, List.take_length] at hI
    exact hI
/-- items behind those -/
theorem wpS_forA (I : List β → DEnv → Sto → Prop) : ∀ (bs pre0 : List β) (tail : List D) {δ : DEnv} {st : Sto}, I pre0 δ st →
    (∀ (pre : List β) (b : β) (post : List β) (δ : DEnv) (st : Sto), pre0 ++ bs = pre ++ b :: post → I pre δ st → optK (t (enc b) δ) fun δ1 => wpS (body δ1 st) (turnL (I (pre ++ [b])) R)) →
    (∀ δ st, I (pre0 ++ bs) δ st → wpS (forG t body tail δ st) R) → wpS (forG t body (bs.map enc ++ tail) δ st) R
  | [], pre0, tail, δ, st, h0, hs, he => he δ st (by rw [List.append_nil]; exact h0)
  | b :: bs, pre0, tail, δ, st, h0, hs, he => by
    have h1 := hs pre0 b bs δ st rfl h0
    rw [List.map_cons, List.cons_append]
    unfold forG
    cases q : t (enc b) δ with
    | none => rw [q] at h1; exact h1.elim
    | some δ1 =>
      rw [q] at h1
      dsimp only
      obtain ⟨f, st', e, q2⟩ := wpS_of h1
      rw [e]
      have next : ∀ δ' st', I (pre0 ++ [b]) δ' st' → wpS (forG t body (bs.map enc ++ tail) δ' st') R := fun δ' st' hI =>
        wpS_forA I bs (pre0 ++ [b]) tail hI (fun pre b' post δ st e hi => hs pre b' post δ st (by rw [← e]; simp) hi) (fun δ st hi => he δ st (by simpa using hi))
      cases f with
      | nx δ' => exact next δ' st' q2
      | ct δ' => exact next δ' st' q2
      | bk δ' => exact q2
      | rt r => exact q2
      | ex x δ' => exact q2
theorem wpS_for0 {δ : DEnv} {st : Sto} : wpS (forG t body [] δ st) R = R (.nx δ) st := rfl
theorem wpS_for1 {d : D} {ds : List D} {δ : DEnv} {st : Sto} (h : optK (t d δ) fun δ1 => wpS (body δ1 st) (turnL (fun δ st => wpS (forG t body ds δ st) R) R)) : wpS (forG t body (d :: ds) δ st) R := by
  unfold forG
  cases q : t d δ with
  | none => rw [q] at h; exact h.elim
  | some δ1 =>
    rw [q] at h
    dsimp only
    obtain ⟨f, st', e, q2⟩ := wpS_of h
    rw [e]
    cases f with
    | nx δ' => exact q2
    | ct δ' => exact q2
    | bk δ' => exact q2
    | rt r => exact q2
    | ex x δ' => exact q2
/-- a comprehension over encoded items; pre: those taken, acc: what is made of them -/
theorem wp_compL (I : List β → List D → Sto → Prop) (bs : List β) {δ : DEnv} {st : Sto} {Q : List D → Sto → Prop} (h0 : I [] [] st)
    (hs : ∀ (pre : List β) (b : β) (post : List β) (acc : List D) (st : Sto), bs = pre ++ b :: post → I pre acc st → optK (t (enc b) δ) fun δ1 => wp (tt δ1 st) (fun c st1 => iteK c (fun _ => wp (te δ1 st1) (fun r st2 => itemK r.frz fun y => guardK (acc.length < LIM) (fun _ => I (pre ++ [b]) (acc ++ [y]) st2)) noX) (fun _ => I (pre ++ [b]) acc st1)) noX)
    (he : ∀ acc st, I bs acc st → Q acc st) : wp (compG t tt te δ (bs.map enc) [] st) Q X := by
  refine wp_compG (fun k acc st => I (bs.take k) acc st) (bs.map enc) 0 [] h0 (fun i d acc st hd hI => ?_) (fun acc st hI => ?_)
  · rw [List.getElem?_map] at hd
    obtain ⟨b, hb, rfl⟩ := Option.map_eq_some_iff.mp hd
    rw [Nat.zero_add] at hI ⊢
    obtain ⟨hi, rfl⟩ := List.getElem?_eq_some_iff.mp hb
    have e : bs = bs.take i ++ bs[i] :: bs.drop (i + 1) := by
      rw [← List.drop_eq_getElem_cons hi, List.take_append_drop]
    rw [take_snoc hb]
    exact hs _ _ _ acc st e hI
  · refine he acc st ?_
    rw [Nat.zero_add, List.length_map, List.take_length] at hI
    exact hI
/-- each item by itself, some left out, nothing else changed -/
theorem wp_compF (p : β → Bool) (f : β → D) (bs : List β) {δ : DEnv} {st : Sto} {Q : List D → Sto → Prop} (hl : bs.length ≤ LIM)
    (hs : ∀ b ∈ bs, optK (t (enc b) δ) fun δ1 => wp (tt δ1 st) (fun c st1 => c = p b ∧ st1 = st ∧ (p b = true → wp (te δ1 st) (fun r st2 => r.frz = .fz (f b) ∧ st2 = st) noX)) noX) (he : Q ((bs.filter p).map f) st) : wp (compG t tt te δ (bs.map enc) [] st) Q X := by
  refine wp_compL (fun pre acc st' => st' = st ∧ acc = (pre.filter p).map f) bs ⟨rfl, rfl⟩ (fun pre b post acc st' e hI => ?_) (fun acc st' hI => ?_)
  · obtain ⟨rfl, rfl⟩ := hI
    have hm : b ∈ bs := by rw [e]; simp
    have h1 := hs b hm
    cases q : t (enc b) δ with
    | none => rw [q] at h1; exact h1.elim
    | some δ1 =>
      rw [q] at h1
      refine wp_mono0 (show wp (tt δ1 st') _ noX from h1) fun c st1 hc => ?_
      obtain ⟨rfl, rfl, hc⟩ := hc
      cases hp : p b with
      | false =>
        rw [iteK_f]
        exact ⟨rfl, by simp [hp]⟩
      | true =>
        rw [iteK_t]
        refine wp_mono0 (hc hp) fun r st2 hr => ?_
        obtain ⟨e2, rfl⟩ := hr
        rw [e2, itemK_f]
        have hlen : (pre.filter p).length ≤ pre.length := List.length_filter_le ..
        have hpl : pre.length < bs.length := by rw [e, List.length_append, List.length_cons]; omega
        refine guard_i ?_ (And.intro rfl ?_)
        · rw [List.length_map]
          exact Nat.lt_of_lt_of_le (Nat.lt_of_le_of_lt hlen hpl) hl
        · simp [hp]
  · obtain ⟨rfl, rfl⟩ := hI
    exact he
/-- each item by itself -/
theorem wp_compE (f : β → D) (bs : List β) {δ : DEnv} {st : Sto} {Q : List D → Sto → Prop} (hl : bs.length ≤ LIM)
    (hs : ∀ b ∈ bs, optK (t (enc b) δ) fun δ1 => wp (tt δ1 st) (fun c st1 => c = true ∧ st1 = st ∧ wp (te δ1 st) (fun r st2 => r.frz = .fz (f b) ∧ st2 = st) noX) noX) (he : Q (bs.map f) st) : wp (compG t tt te δ (bs.map enc) [] st) Q X := by
  refine wp_compF (fun _ => true) f bs hl (fun b hb => ?_) (by rw [List.filter_eq_self.mpr (fun _ _ => rfl)]; exact he)
  have h1 := hs b hb
  cases q : t (enc b) δ with
  | none => rw [q] at h1; exact h1.elim
  | some δ1 =>
    rw [q] at h1
    exact wp_mono0 (show wp (tt δ1 st) _ noX from h1) fun c st1 hc => ⟨hc.1, hc.2.1, fun _ => hc.2.2⟩
end
theorem rev_ind {α : Type} {P : List α → Prop} (h0 : P []) (hs : ∀ l a, P l → P (l ++ [a])) (l : List α) : P l := by
  have key : ∀ m : List α, P m.reverse := fun m => by
    induction m with
    | nil => exact h0
    | cons a m ih => rw [List.reverse_cons]; exact hs _ _ ih
  have := key l.reverse
  rwa [List.reverse_reverse] at this
section
variable {α : Type} {l : List α} {a b : α}
theorem ixN_m1 {n : Nat} (h : 0 < n) : ixN n (-1) = some (n - 1) := by
  unfold ixN
  rw [if_neg (by omega), if_pos (by omega)]
  congr 1
  omega
@[simp] theorem atI_m1 : atI (l ++ [a]) (-1) = some a := by
  unfold atI
  rw [ixN_m1 (by simp)]
  simp
theorem setIx_m1 {ds : List D} {d e : D} : setIx (ds ++ [d]) (-1) e = some (ds ++ [e]) := by
  unfold setIx
  rw [ixN_m1 (by simp)]
  simp
theorem sIx_none {n d : Nat} : HT.sIx n d none = d := rfl
@[simp] theorem cutQ_all : cutQ l none none = l := by
  unfold cutQ
  simp [sIx_none]
end
end DL

/-! DM6: more readings evaluated. -/
namespace DL
open PySem PySem.Spec PyProof.Rows L2 TL
set_option autoImplicit false
@[simp] theorem guardK_of {p : Prop} {A : Unit → Prop} (h : p) : guardK p A = A () := propext ⟨fun z => z.2, fun z => ⟨h, z⟩⟩
@[simp] theorem iteK_dt {p : Prop} [Decidable p] {A B : Unit → Prop} (h : p) : iteK (decide p) A B = A () := by rw [decide_eq_true h]; rfl
@[simp] theorem iteK_df {p : Prop} [Decidable p] {A B : Unit → Prop} (h : ¬ p) : iteK (decide p) A B = B () := by rw [decide_eq_false h]; rfl
@[simp] theorem iteK_not {c : Bool} {A B : Unit → Prop} : iteK (!c) A B = iteK c B A := by cases c <;> rfl
@[simp] theorem isAq_NoneType_bool : isA "NoneType" "bool" = false := by decide
@[simp] theorem isAq_NoneType_int : isA "NoneType" "int" = false := by decide
@[simp] theorem isAq_NoneType_str : isA "NoneType" "str" = false := by decide
@[simp] theorem isAq_NoneType_tuple : isA "NoneType" "tuple" = false := by decide
@[simp] theorem isAq_NoneType_list : isA "NoneType" "list" = false := by decide
@[simp] theorem isAq_NoneType_dict : isA "NoneType" "dict" = false := by decide
@[simp] theorem isAq_bool_bool : isA "bool" "bool" = true := by decide
@[simp] theorem isAq_bool_int : isA "bool" "int" = true := by decide
@[simp] theorem isAq_bool_str : isA "bool" "str" = false := by decide
@[simp] theorem isAq_bool_tuple : isA "bool" "tuple" = false := by decide
@[simp] theorem isAq_bool_list : isA "bool" "list" = false := by decide
@[simp] theorem isAq_bool_dict : isA "bool" "dict" = false := by decide
@[simp] theorem isAq_int_bool : isA "int" "bool" = false := by decide
@[simp] theorem isAq_int_int : isA "int" "int" = true := by decide
@[simp] theorem isAq_int_str : isA "int" "str" = false := by decide
@[simp] theorem isAq_int_tuple : isA "int" "tuple" = false := by decide
@[simp] theorem isAq_int_list : isA "int" "list" = false := by decide
@[simp] theorem isAq_int_dict : isA "int" "dict" = false := by decide
@[simp] theorem isAq_str_bool : isA "str" "bool" = false := by decide
@[simp] theorem isAq_str_int : isA "str" "int" = false := by decide
@[simp] theorem isAq_str_str : isA "str" "str" = true := by decide
@[simp] theorem isAq_str_tuple : isA "str" "tuple" = false := by decide
@[simp] theorem isAq_str_list : isA "str" "list" = false := by decide
@[simp] theorem isAq_str_dict : isA "str" "dict" = false := by decide
@[simp] theorem isAq_tuple_bool : isA "tuple" "bool" = false := by decide
@[simp] theorem isAq_tuple_int : isA "tuple" "int" = false := by decide
@[simp] theorem isAq_tuple_str : isA "tuple" "str" = false := by decide
@[simp] theorem isAq_tuple_tuple : isA "tuple" "tuple" = true := by decide
@[simp] theorem isAq_tuple_list : isA "tuple" "list" = false := by decide
@[simp] theorem isAq_tuple_dict : isA "tuple" "dict" = false := by decide
@[simp] theorem isAq_list_bool : isA "list" "bool" = false := by decide
@[simp] theorem isAq_list_int : isA "list" "int" = false := by decide
@[simp] theorem isAq_list_str : isA "list" "str" = false := by decide
@[simp] theorem isAq_list_tuple : isA "list" "tuple" = false := by decide
@[simp] theorem isAq_list_list : isA "list" "list" = true := by decide
@[simp] theorem isAq_list_dict : isA "list" "dict" = false := by decide
@[simp] theorem isAq_dict_bool : isA "dict" "bool" = false := by decide
@[simp] theorem isAq_dict_int : isA "dict" "int" = false := by decide
@[simp] theorem isAq_dict_str : isA "dict" "str" = false := by decide
@[simp] theorem isAq_dict_tuple : isA "dict" "tuple" = false := by decide
@[simp] theorem isAq_dict_list : isA "dict" "list" = false := by decide
@[simp] theorem isAq_dict_dict : isA "dict" "dict" = true := by decide
section
variable {δ : DEnv} {st : Sto} {i j : Int} {b : Bool} {s t : List Nat} {x y : Rv} {ds es : List D} {d e : D} {n m : Nat} {c : Con} {X : Exn → Sto → Prop} {Q : Rv → Sto → Prop} {R : List D → Prop}
@[simp ↓] theorem fAppend_g : optK (fAppend ds [d]) R = guardK (ds.length < LIM) (hold (q := ⟨fun _ => R (ds ++ [d])⟩)) := by
  show optK (if ds.length < LIM then some (ds ++ [d]) else none) R = _
  unfold guardK
  split
  · rename_i h; exact propext ⟨fun z => ⟨h, z⟩, fun z => z.2⟩
  · rename_i h; exact propext ⟨fun z => False.elim z, fun z => absurd z.1 h⟩
@[simp ↓] theorem wp_tuple_t : wp (kTuple δ [.fz (.tup ds)] st) Q X = Q (.fz (.tup ds)) st := (rfl)
@[simp ↓] theorem wp_tuple_l : wp (kTuple δ [.fz (.lst ds)] st) Q X = Q (.fz (.tup ds)) st := (rfl)
@[simp ↓] theorem wp_tuple_r : wp (kTuple δ [.fz (.rol ds)] st) Q X = Q (.fz (.tup ds)) st := (rfl)
@[simp ↓] theorem wp_tuple_o : wp (kTuple δ [.ow (.lst ds)] st) Q X = Q (.fz (.tup ds)) st := (rfl)
@[simp ↓] theorem wp_tuple_v : wp (kTuple δ [.vw n] st) Q X = optK (ownL δ n) (hold (q := ⟨fun ds => Q (.fz (.tup ds)) st⟩)) := by
  show wp (opt (Rv.asR δ st (.vw n)) (fun ds => ret (.fz (.tup ds))) st) Q X = _
  rw [wp_opt0, asR_v']; rfl
@[simp ↓] theorem wp_tuple_c : wp (kTuple δ [.fz (.loc n)] st) Q X = optK (Rv.asQ δ st (.fz (.loc n))) (hold (q := ⟨fun ds => Q (.fz (.tup ds)) st⟩)) := by
  show wp (opt (Rv.asR δ st (.fz (.loc n))) (fun ds => ret (.fz (.tup ds))) st) Q X = _
  rw [wp_opt0]; rfl
@[simp] theorem frz_vw : (Rv.vw n).frz = .vw n := (rfl)
theorem wp_g {p : Prop} [Decidable p] {f : M Rv} {Q : Rv → Sto → Prop} : wp ((if p then f else fail) st) Q X = guardK p (hold (q := ⟨fun _ => wp (f st) Q X⟩)) := by
  unfold guardK
  split
  · rename_i h; exact propext ⟨fun z => ⟨h, z⟩, fun z => z.2⟩
  · rename_i h; exact propext ⟨fun z => False.elim z, fun z => absurd z.1 h⟩
@[simp ↓ low] theorem wp_kAdd_sg : wp (kAdd δ (.fz (.str s)) (.fz (.str t)) st) Q X = guardK (s.length + t.length ≤ LIM) (hold (q := ⟨fun _ => Q (.fz (.str (s ++ t))) st⟩)) := wp_g
@[simp ↓] theorem wp_kAdd_tg : wp (kAdd δ (.fz (.tup ds)) (.fz (.tup es)) st) Q X = guardK (ds.length + es.length ≤ LIM) (hold (q := ⟨fun _ => Q (.fz (.tup (ds ++ es))) st⟩)) := wp_g
theorem wp_kAdd_L {x y : Rv} {xs ys : List D} (hx : x.asL δ st = some xs) (hy : y.asL δ st = some ys) (h : (isII δ x y || isSS δ x y) = false) (h2 : isTT δ x y = false) : wp (kAdd δ x y st) Q X = guardK (xs.length + ys.length ≤ LIM) (hold (q := ⟨fun _ => Q (.ow (.lst (xs ++ ys))) st⟩)) := by
  rw [Bool.or_eq_false_iff] at h
  unfold kAdd kOr
  rw [h.1, h.2, h2]
  show wp (kAddL δ x y st) Q X = _
  unfold kAddL
  rw [hx, hy]
  exact wp_g
@[simp ↓] theorem wp_kAdd_oo : wp (kAdd δ (.ow (.lst ds)) (.ow (.lst es)) st) Q X = guardK (ds.length + es.length ≤ LIM) (hold (q := ⟨fun _ => Q (.ow (.lst (ds ++ es))) st⟩)) := wp_g
@[simp ↓] theorem wp_kAdd_ol : wp (kAdd δ (.ow (.lst ds)) (.fz (.lst es)) st) Q X = guardK (ds.length + es.length ≤ LIM) (hold (q := ⟨fun _ => Q (.ow (.lst (ds ++ es))) st⟩)) := wp_g
@[simp ↓] theorem wp_kAdd_lo : wp (kAdd δ (.fz (.lst ds)) (.ow (.lst es)) st) Q X = guardK (ds.length + es.length ≤ LIM) (hold (q := ⟨fun _ => Q (.ow (.lst (ds ++ es))) st⟩)) := wp_g
@[simp ↓] theorem wp_kAdd_ll : wp (kAdd δ (.fz (.lst ds)) (.fz (.lst es)) st) Q X = guardK (ds.length + es.length ≤ LIM) (hold (q := ⟨fun _ => Q (.ow (.lst (ds ++ es))) st⟩)) := wp_g
theorem asL_vw : Rv.asL δ st (.vw n) = ownL δ n := by
  unfold Rv.asL Rv.con ownL
  rfl
theorem wp_kAdd_Lx {x y : Rv} (h : (isII δ x y || isSS δ x y) = false) (h2 : isTT δ x y = false) : wp (kAdd δ x y st) Q X = optK (x.asL δ st) (hold (q := ⟨fun xs => optK (y.asL δ st) (hold (q := ⟨fun ys => guardK (xs.length + ys.length ≤ LIM) (hold (q := ⟨fun _ => Q (.ow (.lst (xs ++ ys))) st⟩))⟩))⟩)) := by
  rw [Bool.or_eq_false_iff] at h
  unfold kAdd kOr
  rw [h.1, h.2, h2]
  show wp (kAddL δ x y st) Q X = _
  unfold kAddL
  rw [wp_opt0]
  refine optK_cg fun xs => ?_
  try simp only [hold_1, hold_2]
  rw [wp_opt0]
  refine optK_cg fun ys => ?_
  exact wp_g
@[simp ↓] theorem wp_kAdd_vo : wp (kAdd δ (.vw n) (.ow (.lst es)) st) Q X = optK (ownL δ n) (hold (q := ⟨fun ds => guardK (ds.length + es.length ≤ LIM) (hold (q := ⟨fun _ => Q (.ow (.lst (ds ++ es))) st⟩))⟩)) := by
  rw [wp_kAdd_Lx rfl rfl, asL_vw]; rfl
@[simp ↓] theorem wp_kAdd_vl : wp (kAdd δ (.vw n) (.fz (.lst es)) st) Q X = optK (ownL δ n) (hold (q := ⟨fun ds => guardK (ds.length + es.length ≤ LIM) (hold (q := ⟨fun _ => Q (.ow (.lst (ds ++ es))) st⟩))⟩)) := by
  rw [wp_kAdd_Lx rfl rfl, asL_vw]; rfl
@[simp ↓] theorem wp_kAdd_lv : wp (kAdd δ (.fz (.lst ds)) (.vw n) st) Q X = optK (ownL δ n) (hold (q := ⟨fun es => guardK (ds.length + es.length ≤ LIM) (hold (q := ⟨fun _ => Q (.ow (.lst (ds ++ es))) st⟩))⟩)) := by
  rw [wp_kAdd_Lx rfl rfl, asL_vw]; rfl
@[simp ↓] theorem wp_kAdd_ov : wp (kAdd δ (.ow (.lst ds)) (.vw n) st) Q X = optK (ownL δ n) (hold (q := ⟨fun es => guardK (ds.length + es.length ≤ LIM) (hold (q := ⟨fun _ => Q (.ow (.lst (ds ++ es))) st⟩))⟩)) := by
  rw [wp_kAdd_Lx rfl rfl, asL_vw]; rfl
@[simp ↓ low] theorem wp_kMul_ig : wp (kMul δ (.fz (.int i)) (.fz (.int j)) st) Q X = guardK (mulOk i j = true) (hold (q := ⟨fun _ => Q (.fz (.int (i * j))) st⟩)) := wp_g
@[simp ↓] theorem wp_kMul_og : wp (kMul δ (.ow (.lst ds)) (.fz (.int j)) st) Q X = guardK (-(2 ^ 63) ≤ j ∧ j < 2 ^ 63 ∧ ds.length * j.toNat ≤ LIM) (hold (q := ⟨fun _ => Q (.ow (.lst (List.replicate j.toNat ds).flatten)) st⟩)) := wp_g
@[simp ↓] theorem wp_kMul_lg : wp (kMul δ (.fz (.lst ds)) (.fz (.int j)) st) Q X = guardK (-(2 ^ 63) ≤ j ∧ j < 2 ^ 63 ∧ ds.length * j.toNat ≤ LIM) (hold (q := ⟨fun _ => Q (.ow (.lst (List.replicate j.toNat ds).flatten)) st⟩)) := wp_g
@[simp ↓] theorem wp_kMul_tg : wp (kMul δ (.fz (.tup ds)) (.fz (.int j)) st) Q X = guardK (ds ≠ [] ∧ 2 ≤ j ∧ j ≤ 1000 ∧ ds.length ≤ 1000) (hold (q := ⟨fun _ => Q (.fz (.tup (List.replicate j.toNat ds).flatten)) st⟩)) := wp_g
@[simp ↓ low] theorem wp_kMod_ig : wp (kMod δ (.fz (.int i)) (.fz (.int j)) st) Q X = guardK (0 < j) (hold (q := ⟨fun _ => Q (.fz (.int (i % j))) st⟩)) := wp_g
@[simp ↓ low] theorem wp_kDiv_ig : wp (kDiv δ (.fz (.int i)) (.fz (.int j)) st) Q X = guardK (divOk j = true) (hold (q := ⟨fun _ => Q (.fz (.int (i / j))) st⟩)) := wp_g
@[simp ↓ low] theorem wp_kIx_sg : wp (kIx δ (.fz (.str s)) (.fz (.int i)) st) Q X = guardK (s.length ≤ LIM) (hold (q := ⟨fun _ => optK (atI s i) (hold (q := ⟨fun c => Q (.fz (.str [c])) st⟩))⟩)) := by
  have e : wp (kIx δ (.fz (.str s)) (.fz (.int i)) st) Q X = wp ((if s.length ≤ LIM then (opt (atI s i) fun c => rsv [c]) else fail) st) Q X := rfl
  rw [e, wp_g]
  unfold guardK
  simp only [hold_1, hold_2]
  rw [wp_opt0]
  rfl
@[simp ↓ low] theorem wp_len_sg : wp (kLen δ [.fz (.str s)] st) Q X = guardK (s.length ≤ LIM) (hold (q := ⟨fun _ => Q (.fz (.int s.length)) st⟩)) := wp_g
@[simp ↓] theorem wp_len_o : wp (kLen δ [.ow (.lst ds)] st) Q X = Q (.fz (.int ds.length)) st := (rfl)
@[simp ↓ low] theorem wp_sl_sg {lo hi : Option Int} : wp (kSl δ (.fz (.str s)) lo hi st) Q X = guardK (s.length ≤ LIM) (hold (q := ⟨fun _ => Q (.fz (.str (cutQ s lo hi))) st⟩)) :=
  wp_g (p := s.length ≤ LIM) (f := rsv (cutQ s lo hi))
@[simp ↓] theorem wp_sl_v {lo hi : Option Int} : wp (kSl δ (.vw n) lo hi st) Q X = optK (ownL δ n) (hold (q := ⟨fun ds => Q (.ow (.lst (cutQ ds lo hi))) st⟩)) := by
  show wp (opt (Rv.asR δ st (.vw n)) (fun ds => ret (.ow (.lst (cutQ ds lo hi)))) st) Q X = _
  rw [wp_opt0, asR_v']; rfl
@[simp ↓] theorem wp_sl_o {lo hi : Option Int} : wp (kSl δ (.ow (.lst ds)) lo hi st) Q X = Q (.ow (.lst (cutQ ds lo hi))) st := (rfl)
@[simp ↓ low] theorem wp_listA_sg : wp (kListA δ [.fz (.str s)] st) Q X = guardK (s.length ≤ LIM) (hold (q := ⟨fun _ => Q (.ow (.lst (chrD s))) st⟩)) :=
  wp_g (p := s.length ≤ LIM) (f := ret (.ow (.lst (chrD s))))
@[simp ↓] theorem wp_int_b : wp (kInt δ [.fz (.bl b)] st) Q X = Q (.fz (.int (if b then 1 else 0))) st := (rfl)
@[simp ↓] theorem wp_int_i : wp (kInt δ [.fz (.int i)] st) Q X = Q (.fz (.int i)) st := (rfl)
end
end DL

/-! DI: rows of items. -/
namespace DL
open PySem PySem.Spec PyProof.Rows L2 TL
set_option autoImplicit false
/-! rows -/
inductive It where
  | n (i : Int) | s (t : List Nat)
  deriving DecidableEq
def It.d : It → D
  | .n i => .int i
  | .s t => .str t
@[simp] theorem d_n {i : Int} : It.d (.n i) = .int i := rfl
@[simp] theorem d_s {t : List Nat} : It.d (.s t) = .str t := rfl
def It.size : It → Nat
  | .n _ => 0
  | .s t => t.length
def It.isS : It → Bool
  | .n _ => false
  | .s _ => true
@[simp] theorem size_n {i : Int} : It.size (.n i) = 0 := rfl
@[simp] theorem size_s {t : List Nat} : It.size (.s t) = t.length := rfl
@[simp] theorem isS_n {i : Int} : It.isS (.n i) = false := rfl
@[simp] theorem isS_s {t : List Nat} : It.isS (.s t) = true := rfl
def lets (r : List It) : Nat := (r.map It.size).sum
def It.fine : It → Bool
  | .n _ => true
  | .s t => t.all fun c => decide (c < 1114112)
@[simp] theorem fine_n {i : Int} : It.fine (.n i) = true := rfl
@[simp] theorem fine_s {t : List Nat} : It.fine (.s t) = t.all fun c => decide (c < 1114112) := rfl
@[simp] theorem lets_nil : lets [] = 0 := rfl
@[simp] theorem lets_app (a b : List It) : lets (a ++ b) = lets a + lets b := by simp [lets]
@[simp] theorem lets_n {i : Int} : lets [.n i] = 0 := rfl
@[simp] theorem lets_s {t : List Nat} : lets [.s t] = t.length := by simp [lets, It.size]
theorem lets_cons (x : It) (r : List It) : lets (x :: r) = x.size + lets r := by simp [lets]
def nstep (acc : List It) : It → List It
  | .n i => acc ++ [.n i]
  | .s t => match acc.getLast? with
    | some (.s u) => acc.dropLast ++ [.s (u ++ t)]
    | _ => if t = [] then acc else acc ++ [.s t]
def norm (r : List It) : List It := r.foldl nstep []
theorem norm_snoc (r : List It) (x : It) : norm (r ++ [x]) = nstep (norm r) x := by simp [norm]
theorem nstep_lets (acc : List It) (x : It) : lets (nstep acc x) = lets acc + x.size := by
  cases x with
  | n i => simp [nstep, It.size]
  | s t =>
    rcases List.eq_nil_or_concat acc with rfl | ⟨l, a, rfl⟩
    · by_cases h : t = []
      · simp [nstep, h, It.size]
      · simp [nstep, h, It.size]
    · cases a with
      | n i =>
        by_cases h : t = []
        · simp [nstep, h, It.size]
        · simp [nstep, h, It.size, lets_cons]
      | s u => simp [nstep, It.size]; omega
theorem norm_lets (r : List It) : lets (norm r) = lets r := by
  induction r using rev_ind with
  | h0 => rfl
  | hs r x ih => rw [norm_snoc, nstep_lets, ih, lets_app]; cases x <;> simp [It.size]
theorem nstep_length (acc : List It) (x : It) : (nstep acc x).length ≤ acc.length + 1 := by
  cases x with
  | n i => simp [nstep]
  | s t =>
    rcases List.eq_nil_or_concat acc with rfl | ⟨l, a, rfl⟩
    · by_cases h : t = [] <;> simp [nstep, h]
    · cases a with
      | n i => by_cases h : t = [] <;> simp [nstep, h]
      | s u => simp [nstep]
theorem norm_length (r : List It) : (norm r).length ≤ r.length := by
  induction r using rev_ind with
  | h0 => simp [norm]
  | hs r x ih =>
    rw [norm_snoc]
    have := nstep_length (norm r) x
    simp; omega
theorem nstep_fine {acc : List It} {x : It} (h : acc.all It.fine = true) (hx : x.fine = true) : (nstep acc x).all It.fine = true := by
  cases x with
  | n i => simp [nstep, It.fine] at *; exact h
  | s t =>
    rcases List.eq_nil_or_concat acc with rfl | ⟨l, a, rfl⟩
    · by_cases z : t = [] <;> simp [nstep, z]
      simpa using hx
    · cases a with
      | n i => by_cases z : t = [] <;> simp [nstep, z] <;> simp at h <;> simp_all
      | s u => simp [nstep, It.fine] at *; simp_all
theorem norm_fine {r : List It} (h : r.all It.fine = true) : (norm r).all It.fine = true := by
  induction r using rev_ind with
  | h0 => rfl
  | hs r x ih =>
    rw [norm_snoc]
    simp only [List.all_append, Bool.and_eq_true, List.all_cons, List.all_nil, and_true] at h
    exact nstep_fine (ih h.1) h.2
theorem okd_row {r : List It} {n : Nat} (h : r.all It.fine = true) : (r.map It.d).all (D.ok n) = true := by
  rw [List.all_map]
  refine List.all_eq_true.mpr fun x hx => ?_
  have := List.all_eq_true.mp h x hx
  cases x <;> simpa [It.fine] using this

theorem size_le {x : It} : ∀ {r : List It}, x ∈ r → x.size ≤ lets r
  | y :: r, h => by
    rw [lets_cons]
    rcases List.mem_cons.mp h with rfl | h
    · omega
    · have := size_le h
      omega
theorem lets_sum : ∀ l : List It, ((l.filter It.isS).map fun b => (b.size : Int)).sum = (lets l : Int)
  | [] => rfl
  | .n i :: l => by rw [List.filter_cons_of_neg (by simp), lets_sum l, lets_cons]; simp
  | .s t :: l => by rw [List.filter_cons_of_pos (by simp), List.map_cons, List.sum_cons, lets_sum l, lets_cons]; simp
def strips (r : List It) : List It := r.filter fun x => !x.isS
/-- a word, if it is not empty -/
def hs (h : List Nat) : List It := if h = [] then [] else [.s h]
@[simp] theorem hs_nil : hs [] = [] := rfl
/-- rows by a held word -/
def pst (p : List It × List Nat) : It → List It × List Nat
  | .s t => (p.1, p.2 ++ t)
  | .n i => (p.1 ++ hs p.2 ++ [.n i], [])
@[simp] theorem pst_s {p : List It × List Nat} {t : List Nat} : pst p (.s t) = (p.1, p.2 ++ t) := rfl
@[simp] theorem pst_n {p : List It × List Nat} {i : Int} : pst p (.n i) = (p.1 ++ hs p.2 ++ [.n i], []) := rfl
def plain2 (r : List It) : List It × List Nat := r.foldl pst ([], [])
theorem plain2_snoc (r : List It) (x : It) : plain2 (r ++ [x]) = pst (plain2 r) x := by simp [plain2]
/-- the items that are no words, and the words' lets, stay -/
theorem norm_plain (r : List It) : norm r = (plain2 r).1 ++ hs (plain2 r).2 ∧ ∀ u, (plain2 r).1.getLast? ≠ some (.s u) := by
  induction r using rev_ind with
  | h0 => exact ⟨rfl, fun u h => by cases h⟩
  | hs r x ih =>
    obtain ⟨ih, hl⟩ := ih
    rw [norm_snoc, plain2_snoc, ih]
    cases x with
    | n i => simp [nstep]
    | s t =>
      refine ⟨?_, hl⟩
      rw [pst_s]
      by_cases hh : (plain2 r).2 = []
      · rw [hh]
        simp only [hs_nil, List.append_nil, List.nil_append]
        rcases List.eq_nil_or_concat (plain2 r).1 with e | ⟨l, a, e⟩
        · rw [e]
          by_cases ht : t = [] <;> simp [nstep, hs, ht]
        · cases a with
          | n i =>
            rw [e]
            by_cases ht : t = [] <;> simp [nstep, hs, ht]
          | s u =>
            refine absurd ?_ (hl u)
            rw [e]
            simp
      · simp [hs, hh, nstep]
theorem strips_app (a b : List It) : strips (a ++ b) = strips a ++ strips b := by simp [strips]
theorem strips_nstep (acc : List It) (x : It) : strips (nstep acc x) = strips acc ++ strips [x] := by
  cases x with
  | n i => simp [nstep, strips]
  | s t =>
    rcases List.eq_nil_or_concat acc with rfl | ⟨l, a, rfl⟩
    · by_cases h : t = [] <;> simp [nstep, h, strips]
    · cases a with
      | n i => by_cases h : t = [] <;> simp [nstep, h, strips]
      | s u => simp [nstep, strips]
theorem strips_norm (r : List It) : strips (norm r) = strips r := by
  induction r using rev_ind with
  | h0 => rfl
  | hs r x ih => rw [norm_snoc, strips_nstep, ih, ← strips_app]
/-- normal: no empty word, no two words side by side -/
def Normal : List It → Prop
  | [] => True
  | [x] => x ≠ .s []
  | x :: y :: r => x ≠ .s [] ∧ (x.isS && y.isS) = false ∧ Normal (y :: r)
theorem normal_snoc : ∀ {l : List It} {x : It}, Normal l → x ≠ .s [] → (∀ a, l.getLast? = some a → (a.isS && x.isS) = false) → Normal (l ++ [x])
  | [], x, _, h, _ => h
  | [y], x, h1, h, h2 => ⟨h1, h2 y rfl, h⟩
  | y :: z :: l, x, h1, h, h2 => ⟨h1.1, h1.2.1, normal_snoc (l := z :: l) h1.2.2 h fun a ha => h2 a (by simpa using ha)⟩
theorem normal_last : ∀ {l : List It} {x y : It}, Normal (l ++ [x]) → y ≠ .s [] → y.isS = x.isS → Normal (l ++ [y])
  | [], x, y, _, h, _ => h
  | [z], x, y, h1, h, h2 => ⟨h1.1, by rw [h2]; exact h1.2.1, h⟩
  | w :: z :: l, x, y, h1, h, h2 => ⟨h1.1, h1.2.1, normal_last (l := z :: l) h1.2.2 h h2⟩
theorem normal_nstep {acc : List It} {x : It} (h : Normal acc) : Normal (nstep acc x) := by
  cases x with
  | n i => exact normal_snoc h (by simp) fun a _ => by simp
  | s t =>
    rcases List.eq_nil_or_concat acc with rfl | ⟨l, a, rfl⟩
    · by_cases z : t = []
      · simp [nstep, z]; trivial
      · simp [nstep, z]; simpa [Normal] using z
    · rw [List.concat_eq_append] at h ⊢
      cases a with
      | n i =>
        by_cases z : t = []
        · simpa [nstep, z] using h
        · have := normal_snoc (x := .s t) h (by simpa using z) fun a ha => by simp at ha; subst ha; simp
          simpa [nstep, z] using this
      | s u =>
        have hu : u ≠ [] := by
          have key : ∀ l : List It, Normal (l ++ [It.s u]) → u ≠ [] := fun l => by
            induction l with
            | nil => exact fun h => by simpa [Normal] using h
            | cons y l ih =>
              intro h
              cases l with
              | nil => simpa [Normal] using h.2.2
              | cons z l => exact ih h.2.2
          exact key l h
        have := normal_last (y := .s (u ++ t)) h (by simp [hu]) (by simp)
        simpa [nstep] using this
theorem norm_normal (r : List It) : Normal (norm r) := by
  induction r using rev_ind with
  | h0 => trivial
  | hs r x ih => rw [norm_snoc]; exact normal_nstep ih
theorem norm_fix_aux : ∀ (r acc : List It), Normal (acc ++ r) → r.foldl nstep acc = acc ++ r
  | [], acc, _ => by simp
  | x :: r, acc, h => by
    have e : nstep acc x = acc ++ [x] := by
      cases x with
      | n i => rfl
      | s t =>
        have key : ∀ (l : List It) (a : It) (m : List It), Normal (l ++ a :: .s t :: m) → a.isS = false ∧ t ≠ [] := by
          intro l
          induction l with
          | nil =>
            intro a m h
            refine ⟨by simpa using h.2.1, ?_⟩
            have h3 := h.2.2
            cases m with
            | nil => simpa [Normal] using h3
            | cons y m => simpa using h3.1
          | cons y l ih =>
            intro a m h
            cases l with
            | nil => exact ih a m h.2.2
            | cons z l => exact ih a m h.2.2
        rcases List.eq_nil_or_concat acc with rfl | ⟨l, a, rfl⟩
        · have : t ≠ [] := by
            cases r with
            | nil => simpa [Normal] using h
            | cons y r => simpa using h.1
          simp [nstep, this]
        · have := key l a r (by simpa using h)
          cases a with
          | n i => simp [nstep, this.2]
          | s u => simp at this
    rw [List.foldl_cons, e, norm_fix_aux r (acc ++ [x]) (by simpa using h)]
    simp
theorem norm_fix {r : List It} (h : Normal r) : norm r = r := by
  have := norm_fix_aux r [] (by simpa using h)
  simpa [norm] using this
end DL

/-! DM7: readings of DL17, DL18 evaluated. -/
namespace DL
open PySem PySem.Spec PyProof.Rows L2 TL
set_option autoImplicit false
/-- what a loop keeps: the state, and the slots but some -/
def Inv1 (st0 : Sto) (f : Option SV → DEnv) (δ : DEnv) (st : Sto) : Prop := st = st0 ∧ ∃ a, δ = f a
def Inv2 (st0 : Sto) (f : Option SV → Option SV → DEnv) (δ : DEnv) (st : Sto) : Prop := st = st0 ∧ ∃ a b, δ = f a b
def Inv3 (st0 : Sto) (f : Option SV → Option SV → Option SV → DEnv) (δ : DEnv) (st : Sto) : Prop := st = st0 ∧ ∃ a b c, δ = f a b c
def Inv4 (st0 : Sto) (f : Option SV → Option SV → Option SV → Option SV → DEnv) (δ : DEnv) (st : Sto) : Prop := st = st0 ∧ ∃ a b c d, δ = f a b c d
section
variable {δ δ' : DEnv} {st : Sto} {i j : Int} {b : Bool} {s t : List Nat} {x y : Rv} {ds es : List D} {d e : D} {n m : Nat} {c : Con} {X : Exn → Sto → Prop} {Q : Rv → Sto → Prop} {QI : List D → Sto → Prop} {R : Fl → Sto → Prop} {ga gb : DEnv → M Rv} {ps : List (Nat × (DEnv → M Rv))}
@[simp ↓] theorem wpS_many : wpS (sMany ps δ st) R = wpS (sManyK δ ps δ st) R := (rfl)
@[simp ↓] theorem wpS_manyN : wpS (sManyK δ [] δ' st) R = R (.nx δ') st := (rfl)
@[simp ↓] theorem wpS_manyC : wpS (sManyK δ ((n, ga) :: ps) δ' st) R = wp (ga δ st) (hold (q := ⟨fun r st1 => setK n r δ' (hold (q := ⟨fun δ'' => wpS (sManyK δ ps δ'' st1) R⟩))⟩)) (hold (q := ⟨fun x st1 => R (.ex x δ) st1⟩)) := by
  show wpS (sBnd (ga δ) δ (fun x st => match setR n x δ' with
    | some δ'' => sManyK δ ps δ'' st
    | none => none) st) R = _
  rw [wpS_bnd0]
  refine wp_cg fun r st1 => ?_
  try simp only [hold_1, hold_2]
  cases r <;> rfl
@[simp ↓] theorem fExtend_g {Z : List D → Prop} : optK (fExtend ds [.lst es]) Z = guardK (ds.length + es.length ≤ LIM) (hold (q := ⟨fun _ => Z (ds ++ es)⟩)) := by
  show optK (if ds.length + es.length ≤ LIM then some (ds ++ es) else none) Z = _
  unfold guardK
  split
  · rename_i h; exact propext ⟨fun z => ⟨h, z⟩, fun z => z.2⟩
  · rename_i h; exact propext ⟨fun z => False.elim z, fun z => absurd z.1 h⟩
@[simp ↓] theorem fInsert_g {Z : List D → Prop} : optK (fInsert ds [.int i, d]) Z = guardK (ds.length < LIM ∧ 0 ≤ i ∧ i < 2 ^ 63) (hold (q := ⟨fun _ => Z (ds.take i.toNat ++ [d] ++ ds.drop i.toNat)⟩)) := by
  show optK (if ds.length < LIM ∧ 0 ≤ i ∧ i < 2 ^ 63 then some (ds.take i.toNat ++ [d] ++ ds.drop i.toNat) else none) Z = _
  unfold guardK
  split
  · rename_i h; exact propext ⟨fun z => ⟨h, z⟩, fun z => z.2⟩
  · rename_i h; exact propext ⟨fun z => False.elim z, fun z => absurd z.1 h⟩
@[simp ↓] theorem wp_rev_s : wp (kRev δ (.fz (.str s)) st) Q X = guardK (s.length ≤ LIM) (hold (q := ⟨fun _ => Q (.fz (.str s.reverse)) st⟩)) :=
  wp_g (p := s.length ≤ LIM) (f := rsv s.reverse)
@[simp ↓] theorem wp_rev_l : wp (kRev δ (.fz (.lst ds)) st) Q X = Q (.ow (.lst ds.reverse)) st := (rfl)
@[simp ↓] theorem wp_rev_o : wp (kRev δ (.ow (.lst ds)) st) Q X = Q (.ow (.lst ds.reverse)) st := (rfl)
@[simp ↓] theorem wp_rev_v : wp (kRev δ (.vw n) st) Q X = optK (ownL δ n) (hold (q := ⟨fun ds => Q (.ow (.lst ds.reverse)) st⟩)) := by
  show wp (opt (Rv.asR δ st (.vw n)) (fun ds => ret (.ow (.lst ds.reverse))) st) Q X = _
  rw [wp_opt0, asR_v']; rfl
@[simp ↓] theorem wp_lstR1 : wp (gLstR1 ga δ st) Q X = wp (ga δ st) (hold (q := ⟨fun r st1 => optK r.asI (hold (q := ⟨fun j => guardK (okR j = true ∧ j ≤ 16777216) (hold (q := ⟨fun _ => Q (.ow (.lst (rangeD 0 j.toNat))) st1⟩))⟩))⟩)) X := by
  unfold gLstR1
  rw [wp_bnd0]
  refine wp_cg fun r st1 => ?_
  try simp only [hold_1, hold_2]
  rw [wp_opt0]
  refine optK_cg fun j => ?_
  exact wp_g
@[simp] theorem seqI_l : (Rv.fz (.lst ds)).seqI = some ds := (rfl)
@[simp] theorem seqI_t : (Rv.fz (.tup ds)).seqI = some ds := (rfl)
@[simp] theorem seqI_r : (Rv.fz (.rol ds)).seqI = some ds := (rfl)
@[simp ↓] theorem wp_revI : wp (gRevI ga δ st) QI X = wp (ga δ st) (hold (q := ⟨fun r st1 => optK r.frz.seqI (hold (q := ⟨fun ds => QI ds.reverse st1⟩))⟩)) X := by
  unfold gRevI
  rw [wp_bnd0, wp_frz0]
  refine wp_cg fun r st1 => ?_
  try simp only [hold_1, hold_2]
  rw [wp_opt0]
  rfl
theorem wp_inQ0 {p : Bool} : wp (kInQ p δ x y st) Q X = optK (x.dat δ) (hold (q := ⟨fun d => optK (y.asQ δ st) (hold (q := ⟨fun ds => guardK ((d.flat && ds.all D.flat) = true) (hold (q := ⟨fun _ => Q (.fz (.bl (xor p (inD d ds)))) st⟩))⟩))⟩)) := by
  unfold kInQ
  rw [wp_opt0]
  refine optK_cg fun d => ?_
  try simp only [hold_1, hold_2]
  rw [wp_opt0]
  refine optK_cg fun ds => ?_
  exact wp_g
theorem kIn_Q {p : Bool} (h : y.asS.isSome = false) : kIn p δ x y = kInQ p δ x y := by
  unfold kIn kOr isSS
  rw [h, Bool.and_false]
  rfl
@[simp ↓] theorem wp_in_t {p : Bool} : wp (kIn p δ x (.fz (.tup ds)) st) Q X = optK (x.dat δ) (hold (q := ⟨fun d => guardK ((d.flat && ds.all D.flat) = true) (hold (q := ⟨fun _ => Q (.fz (.bl (xor p (inD d ds)))) st⟩))⟩)) := by
  rw [kIn_Q rfl, wp_inQ0]; rfl
@[simp ↓] theorem wp_in_l {p : Bool} : wp (kIn p δ x (.fz (.lst ds)) st) Q X = optK (x.dat δ) (hold (q := ⟨fun d => guardK ((d.flat && ds.all D.flat) = true) (hold (q := ⟨fun _ => Q (.fz (.bl (xor p (inD d ds)))) st⟩))⟩)) := by
  rw [kIn_Q rfl, wp_inQ0]; rfl
@[simp ↓] theorem wp_in_o {p : Bool} : wp (kIn p δ x (.ow (.lst ds)) st) Q X = optK (x.dat δ) (hold (q := ⟨fun d => guardK ((d.flat && ds.all D.flat) = true) (hold (q := ⟨fun _ => Q (.fz (.bl (xor p (inD d ds)))) st⟩))⟩)) := by
  rw [kIn_Q rfl, wp_inQ0]; rfl
@[simp ↓] theorem wp_in_v {p : Bool} : wp (kIn p δ x (.vw n) st) Q X = optK (x.dat δ) (hold (q := ⟨fun d => optK (ownL δ n) (hold (q := ⟨fun ds => guardK ((d.flat && ds.all D.flat) = true) (hold (q := ⟨fun _ => Q (.fz (.bl (xor p (inD d ds)))) st⟩))⟩))⟩)) := by
  rw [kIn_Q rfl, wp_inQ0, asQ_vw]
@[simp ↓] theorem wp_comp0 {t : GT} {tt : DEnv → M Bool} {te : DEnv → M Rv} {QL : List D → Sto → Prop} : wp (compG t tt te δ [] ds st) QL X = QL ds st := (rfl)
@[simp] theorem flat_s : D.flat (.str s) = true := (rfl)
@[simp] theorem flat_i : D.flat (.int i) = true := (rfl)
@[simp] theorem flat_n : D.flat .non = true := (rfl)
@[simp] theorem flat_b : D.flat (.bl b) = true := (rfl)
end
end DL

/-! DJ: rows filled, substituted, mirrored. -/
namespace DL
open PySem PySem.Spec PyProof.Rows L2 TL
set_option autoImplicit false
/-- an item's text, the strips' texts given -/
def itT (tx : List (List Nat)) : It → List Nat
  | .s t => t
  | .n i => tx.getD i.toNat []
@[simp] theorem itT_s {tx : List (List Nat)} {t : List Nat} : itT tx (.s t) = t := rfl
@[simp] theorem itT_n {tx : List (List Nat)} {i : Int} : itT tx (.n i) = tx.getD i.toNat [] := rfl
def fillT (r : List It) (tx : List (List Nat)) : List Nat := (r.map (itT tx)).flatten
@[simp] theorem fillT_nil {tx : List (List Nat)} : fillT [] tx = [] := rfl
theorem fillT_app (a b : List It) (tx : List (List Nat)) : fillT (a ++ b) tx = fillT a tx ++ fillT b tx := by simp [fillT]
theorem fillT_cons (x : It) (b : List It) (tx : List (List Nat)) : fillT (x :: b) tx = itT tx x ++ fillT b tx := by simp [fillT]
theorem fillT_one (x : It) (tx : List (List Nat)) : fillT [x] tx = itT tx x := by simp [fillT]
theorem fillT_nstep (acc : List It) (x : It) (tx : List (List Nat)) : fillT (nstep acc x) tx = fillT acc tx ++ itT tx x := by
  cases x with
  | n i => simp [nstep, fillT_app, fillT_one]
  | s t =>
    rcases List.eq_nil_or_concat acc with rfl | ⟨l, a, rfl⟩
    · by_cases h : t = [] <;> simp [nstep, h, fillT_one]
    · cases a with
      | n i => by_cases h : t = [] <;> simp [nstep, h, fillT_app, fillT_cons]
      | s u => simp [nstep, fillT_app, fillT_cons]
theorem fillT_norm (r : List It) (tx : List (List Nat)) : fillT (norm r) tx = fillT r tx := by
  induction r using rev_ind with
  | h0 => rfl
  | hs r x ih => rw [norm_snoc, fillT_nstep, ih, fillT_app, fillT_one]
/-- the strips are of the first n -/
def It.inR (n : Nat) : It → Bool
  | .n i => decide (0 ≤ i ∧ i < n)
  | .s _ => true
@[simp] theorem inR_s {n : Nat} {t : List Nat} : It.inR n (.s t) = true := rfl
@[simp] theorem inR_n {n : Nat} {i : Int} : It.inR n (.n i) = decide (0 ≤ i ∧ i < n) := rfl
def subI (rows : List (List It)) : It → List It
  | .s t => [.s t]
  | .n i => rows.getD i.toNat []
@[simp] theorem subI_s {rows : List (List It)} {t : List Nat} : subI rows (.s t) = [.s t] := rfl
@[simp] theorem subI_n {rows : List (List It)} {i : Int} : subI rows (.n i) = rows.getD i.toNat [] := rfl
def subst (r : List It) (rows : List (List It)) : List It := norm (r.flatMap (subI rows))
theorem getD_map {α β : Type} (f : α → β) (l : List α) (d : α) (k : Nat) : (l.map f).getD k (f d) = f (l.getD k d) := by
  simp only [List.getD_eq_getElem?_getD, List.getElem?_map]
  cases l[k]? <;> rfl
theorem fill_subI (rows : List (List It)) (tx : List (List Nat)) (x : It) : fillT (subI rows x) tx = itT (rows.map fun r => fillT r tx) x := by
  cases x with
  | s t => simp [fillT_one]
  | n i =>
    rw [subI_n, itT_n, ← getD_map (fun r => fillT r tx) rows []]
    rfl
theorem fill_flat (r : List It) (rows : List (List It)) (tx : List (List Nat)) : fillT (r.flatMap (subI rows)) tx = fillT r (rows.map fun r => fillT r tx) := by
  induction r with
  | nil => rfl
  | cons x r ih => rw [List.flatMap_cons, fillT_app, ih, fillT_cons, fill_subI]
theorem fill_subst (r : List It) (rows : List (List It)) (tx : List (List Nat)) : fillT (subst r rows) tx = fillT r (rows.map fun r => fillT r tx) := by
  unfold subst
  rw [fillT_norm, fill_flat]
theorem strips_flat (r : List It) (rows : List (List It)) : strips (r.flatMap (subI rows)) = (strips r).flatMap fun x => strips (subI rows x) := by
  induction r with
  | nil => rfl
  | cons x r ih =>
    rw [List.flatMap_cons, strips_app, ih]
    cases x with
    | n i => simp [strips]
    | s t => simp [strips]
theorem lets_flat (r : List It) (rows : List (List It)) {B : Nat} (h : ∀ q ∈ rows, lets q ≤ B) : lets (r.flatMap (subI rows)) ≤ lets r + r.length * B := by
  induction r with
  | nil => simp
  | cons x r ih =>
    rw [List.flatMap_cons, lets_app, lets_cons, List.length_cons]
    have : lets (subI rows x) ≤ x.size + B := by
      cases x with
      | s t => simp
      | n i =>
        rw [subI_n, List.getD_eq_getElem?_getD]
        cases q : rows[i.toNat]? with
        | none => simp
        | some z => have := h z (List.mem_of_getElem? q); simp; omega
    rw [Nat.succ_mul]
    omega
theorem length_flat (r : List It) (rows : List (List It)) {B : Nat} (h : ∀ q ∈ rows, q.length ≤ B) : (r.flatMap (subI rows)).length ≤ r.length * (B + 1) := by
  induction r with
  | nil => simp
  | cons x r ih =>
    rw [List.flatMap_cons, List.length_append, List.length_cons, Nat.succ_mul]
    have : (subI rows x).length ≤ B + 1 := by
      cases x with
      | s t => simp
      | n i =>
        rw [subI_n, List.getD_eq_getElem?_getD]
        cases q : rows[i.toNat]? with
        | none => simp
        | some z => have := h z (List.mem_of_getElem? q); simp; omega
    omega
theorem fine_flat {r : List It} {rows : List (List It)} (hr : r.all It.fine = true) (h : ∀ q ∈ rows, q.all It.fine = true) : (r.flatMap (subI rows)).all It.fine = true := by
  induction r with
  | nil => rfl
  | cons x r ih =>
    rw [List.all_cons, Bool.and_eq_true] at hr
    rw [List.flatMap_cons, List.all_append, ih hr.2, Bool.and_true]
    cases x with
    | s t => simpa using hr.1
    | n i =>
      rw [subI_n, List.getD_eq_getElem?_getD]
      cases q : rows[i.toNat]? with
      | none => rfl
      | some z => exact h z (List.mem_of_getElem? q)
/-- from its end -/
def mirI : It → It
  | .s t => .s t.reverse
  | .n i => .n i
@[simp] theorem mirI_s {t : List Nat} : mirI (.s t) = .s t.reverse := rfl
@[simp] theorem mirI_n {i : Int} : mirI (.n i) = .n i := rfl
def mirR (r : List It) : List It := r.reverse.map mirI
theorem mirI_mirI (x : It) : mirI (mirI x) = x := by cases x <;> simp
theorem mirR_mirR (r : List It) : mirR (mirR r) = r := by
  unfold mirR
  rw [← List.map_reverse, List.reverse_reverse, List.map_map]
  rw [show mirI ∘ mirI = id from funext mirI_mirI, List.map_id]
theorem itT_mir (tx : List (List Nat)) (x : It) : itT (tx.map List.reverse) (mirI x) = (itT tx x).reverse := by
  cases x with
  | s t => rfl
  | n i =>
    rw [mirI_n, itT_n, itT_n, ← getD_map List.reverse tx []]
    rfl
theorem fill_mir (r : List It) (tx : List (List Nat)) : fillT (mirR r) (tx.map List.reverse) = (fillT r tx).reverse := by
  unfold fillT mirR
  rw [List.map_map, List.reverse_flatten, List.map_map, ← List.map_reverse]
  congr 1
  exact List.map_congr_left fun x _ => itT_mir tx x
theorem mir_lets (r : List It) : lets (mirR r) = lets r := by
  have : ∀ x : It, (mirI x).size = x.size := fun x => by cases x <;> simp
  unfold lets mirR
  rw [List.map_map, show It.size ∘ mirI = It.size from funext this, List.map_reverse, List.sum_reverse]
theorem fill_len (r : List It) (tx : List (List Nat)) {B : Nat} (h : ∀ q ∈ tx, q.length ≤ B) : (fillT r tx).length ≤ lets r + r.length * B := by
  induction r with
  | nil => simp
  | cons x r ih =>
    rw [fillT_cons, List.length_append, lets_cons, List.length_cons, Nat.succ_mul]
    have : (itT tx x).length ≤ x.size + B := by
      cases x with
      | s t => simp
      | n i =>
        rw [itT_n, List.getD_eq_getElem?_getD]
        cases q : tx[i.toNat]? with
        | none => simp
        | some z => have := h z (List.mem_of_getElem? q); simp; omega
    omega
theorem inR_mono {n m : Nat} (h : n ≤ m) {r : List It} (hr : r.all (It.inR n) = true) : r.all (It.inR m) = true := by
  refine List.all_eq_true.mpr fun x hx => ?_
  have := List.all_eq_true.mp hr x hx
  cases x with
  | s t => rfl
  | n i => simp at this ⊢; omega
theorem inR_strips {n : Nat} {r : List It} (h : ∀ x ∈ strips r, x.inR n = true) : r.all (It.inR n) = true := by
  refine List.all_eq_true.mpr fun x hx => ?_
  cases x with
  | s t => rfl
  | n i => exact h _ (by unfold strips; exact List.mem_filter.mpr ⟨hx, rfl⟩)
/-- == of rows -/
theorem deq_row1 (a b : It) : deq a.d b.d = decide (a = b) := by
  cases a <;> cases b <;> simp
theorem deqs_row (a b : List It) : deqs (a.map It.d) (b.map It.d) = decide (a = b) := deqs_map deq_row1 a b
theorem flat_row (r : List It) : (r.map It.d).all D.flat = true := by
  rw [List.all_map]
  exact List.all_eq_true.mpr fun x _ => by cases x <;> rfl
theorem inD_nil (r : List It) : inD (.str []) (r.map It.d) = r.any fun x => decide (x = .s []) := by
  unfold inD
  rw [List.any_map]
  congr 1
  funext x
  cases x <;> simp [eqF]
theorem normal_adj : ∀ {r : List It}, Normal r → ∀ (i : Nat) (h : i + 1 < r.length), (r[i].isS && r[i + 1].isS) = false
  | [], _, i, h => absurd h (by simp)
  | [_], _, i, h => absurd h (by simp)
  | x :: y :: r, n, 0, _ => n.2.1
  | x :: y :: r, n, i + 1, h => by
    have := normal_adj (r := y :: r) n.2.2 i (by simpa using h)
    simpa using this
theorem normal_noempty : ∀ {r : List It}, Normal r → (r.any fun x => decide (x = .s [])) = false
  | [], _ => rfl
  | [x], n => by simpa [Normal] using n
  | x :: y :: r, n => by
    rw [List.any_cons, normal_noempty (r := y :: r) n.2.2, Bool.or_false]
    simpa using n.1
end DL

/-! DM8: readings of DL19 to DL24 evaluated. -/
namespace DL
open PySem PySem.Spec PyProof.Rows L2 TL
set_option autoImplicit false
/-- the draws' cell first -/
def BagR (rest : Sto) (st : Sto) : Prop := ∃ cs i a s t, 0 ≤ i ∧ st = some (bagC cs i a s t) :: rest
section
variable {δ δ' : DEnv} {st : Sto} {i j : Int} {b : Bool} {s t : List Nat} {x y r : Rv} {ds es : List D} {d e : D} {n m : Nat} {c c' f mm : Str} {fs : List (Str × D)} {X : Exn → Sto → Prop} {Q : Rv → Sto → Prop} {QI : List D → Sto → Prop} {R : Fl → Sto → Prop} {ga gb go gv : DEnv → M Rv} {gs : DEnv → M (List Rv)} {F : List D → M Rv}
def enumK (QI : List D → Sto → Prop) (st : Sto) : List Rv → Prop
  | [r] => optK r.items fun ds => QI (enumD ds) st
  | _ => False
@[simp ↓] theorem enumK_1 : enumK QI st [r] = optK r.items (hold (q := ⟨fun ds => QI (enumD ds) st⟩)) := (rfl)
@[simp ↓] theorem wp_enum : wp (gEnumI gs δ st) QI X = wp (gs δ st) (hold (q := ⟨fun rs st1 => enumK QI st1 rs⟩)) X := by
  unfold gEnumI
  rw [wp_bnd0]
  refine wp_cg fun rs st1 => ?_
  try simp only [hold_1, hold_2]
  match rs with
  | [] => rfl
  | [r] => rw [wp_opt0]; rfl
  | _ :: _ :: _ => rfl
def attrK (c f : Str) (QD : D → Prop) (z : Str × List (Str × D)) : Prop := guardK (z.1 = c) fun _ => optK (z.2.lookup f) QD
@[simp ↓] theorem wp_attr : wp (gAttr c f ga δ st) Q X = wp (ga δ st) (hold (q := ⟨fun r st1 => optK (r.obj δ st1) (hold (q := ⟨fun z => attrK c f (fun d => Q (.fz d) st1) z⟩))⟩)) X := by
  unfold gAttr
  rw [wp_bnd0]
  refine wp_cg fun r st1 => ?_
  try simp only [hold_1, hold_2]
  unfold attrK guardK
  cases r.obj δ st1 with
  | none => rfl
  | some z =>
    obtain ⟨c', fs⟩ := z
    dsimp only [optK]
    by_cases h : c' = c
    · rw [if_pos h, wp_opt0]
      exact propext ⟨fun q => ⟨h, q⟩, fun q => q.2⟩
    · rw [if_neg h]
      exact propext ⟨fun q => q.elim, fun q => absurd q.1 h⟩
@[simp ↓] theorem wp_sIx : wp (gSIx ga gs δ st) Q X = wp (ga δ st) (hold (q := ⟨fun r st1 => optK r.asS (hold (q := ⟨fun s => wp (gs δ st1) (hold (q := ⟨fun rs st2 => optK (allD rs) (hold (q := ⟨fun ds => optK (sig1 ds) (hold (q := ⟨fun c => optK (s.findIdx? (· == c)) (hold (q := ⟨fun i => Q (.fz (.int (i : Nat))) st2⟩))⟩))⟩))⟩)) X⟩))⟩)) X := by
  unfold gSIx
  rw [wp_bnd0]
  refine wp_cg fun r st1 => ?_
  try simp only [hold_1, hold_2]
  rw [wp_opt0]
  refine optK_cg fun s => ?_
  try simp only [hold_1, hold_2]
  rw [wp_bnd0]
  refine wp_cg fun rs st2 => ?_
  try simp only [hold_1, hold_2]
  rw [wp_opt0]
  refine optK_cg fun ds => ?_
  try simp only [hold_1, hold_2]
  rw [wp_opt0]
  refine optK_cg fun c => ?_
  try simp only [hold_1, hold_2]
  rw [wp_opt0]
  rfl
@[simp] theorem sig1_s {k : Nat} : sig1 [.str [k]] = some k := (rfl)
@[simp ↓] theorem wp_meth : wp (gMeth c mm n F go gs δ st) Q X = wp (go δ st) (hold (q := ⟨fun r st1 => optK (r.selfD δ st1 c mm) (hold (q := ⟨fun d => wp (gs δ st1) (hold (q := ⟨fun rs st2 => optK (allD rs) (hold (q := ⟨fun ds => guardK (ds.length = n) (hold (q := ⟨fun _ => wp (F (d :: ds) st2) Q X⟩))⟩))⟩)) X⟩))⟩)) X := by
  unfold gMeth
  rw [wp_bnd0]
  refine wp_cg fun r st1 => ?_
  try simp only [hold_1, hold_2]
  cases r.selfD δ st1 c mm with
  | none => rfl
  | some d =>
    dsimp only [optK]
    rw [wp_bnd0]
    refine wp_cg fun rs st2 => ?_
    try simp only [hold_1, hold_2]
    rw [wp_opt0]
    refine optK_cg fun ds => ?_
    exact wp_g
@[simp ↓] theorem wp_makeZ : wp (gMakeZ c n F gs δ st) Q X = wp (gs δ st) (hold (q := ⟨fun rs st1 => optK (allD rs) (hold (q := ⟨fun ds => guardK (ds.length = n) (hold (q := ⟨fun _ => wp (F (.loc st1.length :: ds) (st1 ++ [some (.obj c [])])) (hold (q := ⟨fun r st2 => guardK (isNon r = true) (hold (q := ⟨fun _ => optK (cellO st2 st1.length) (hold (q := ⟨fun z => guardK (z.1 = c) (hold (q := ⟨fun _ => Q (.fz (.obj c z.2)) (st2.set st1.length none)⟩))⟩))⟩))⟩)) X⟩))⟩))⟩)) X := by
  unfold gMakeZ
  rw [wp_bnd0]
  refine wp_cg fun rs st1 => ?_
  try simp only [hold_1, hold_2]
  rw [wp_opt0]
  refine optK_cg fun ds => ?_
  try simp only [hold_1, hold_2]
  rw [wp_g]
  try simp only [hold_1, hold_2]
  congr 1
  funext _
  try simp only [hold_1, hold_2]
  rw [wp_bnd0]
  unfold mkM
  cases F (.loc st1.length :: ds) (st1 ++ [some (.obj c [])]) with
  | none => rfl
  | some o =>
    obtain ⟨o, st2⟩ := o
    cases o with
    | ex x => rfl
    | ok r =>
      show wp (if isNon r = true then some (.ok st1.length, st2) else none) _ X = guardK (isNon r = true) _
      unfold guardK
      by_cases h : isNon r = true
      · rw [if_pos h]
        refine propext ⟨fun q => ⟨h, ?_⟩, fun q => ?_⟩
        · have q : wp (iceM c st1.length st2) Q X := q
          try simp only [hold_1, hold_2]
          unfold iceM at q
          cases e : cellO st2 st1.length with
          | none => rw [e] at q; exact q.elim
          | some z =>
            obtain ⟨c', fs⟩ := z
            rw [e] at q
            dsimp only at q
            by_cases hc : c' = c
            · rw [if_pos hc] at q; exact ⟨hc, q⟩
            · rw [if_neg hc] at q; exact q.elim
        · have q := q.2
          try simp only [hold_1, hold_2] at q
          show wp (iceM c st1.length st2) Q X
          unfold iceM
          cases e : cellO st2 st1.length with
          | none => rw [e] at q; exact q.elim
          | some z =>
            obtain ⟨c', fs⟩ := z
            rw [e] at q
            dsimp only
            have q : c' = c ∧ _ := q
            rw [if_pos q.1]
            exact q.2
      · rw [if_neg h]
        exact propext ⟨fun q => q.elim, fun q => absurd q.1 h⟩
def attrS (c f : Str) (δ : DEnv) (st : Sto) (R : Fl → Sto → Prop) : Rv → Rv → Prop
  | .fz d, .fz (.loc n) => optK (cellO st n) fun z => guardK (z.1 = c ∧ z.2.length < 1000) fun _ => R (.nx δ) (st.set n (some (.obj c (putD f d z.2))))
  | _, _ => False
@[simp ↓] theorem attrS_l : attrS c f δ st R (.fz d) (.fz (.loc n)) = optK (cellO st n) (hold (q := ⟨fun z => guardK (z.1 = c ∧ z.2.length < 1000) (hold (q := ⟨fun _ => R (.nx δ) (st.set n (some (.obj c (putD f d z.2))))⟩))⟩)) := (rfl)
@[simp ↓] theorem wpS_attr : wpS (sAttr c f go gv δ st) R = wp (gv δ st) (hold (q := ⟨fun rv st1 => wp (go δ st1) (hold (q := ⟨fun ro st2 => attrS c f δ st2 R rv.frz ro⟩)) (hold (q := ⟨fun x st => R (.ex x δ) st⟩))⟩)) (hold (q := ⟨fun x st => R (.ex x δ) st⟩)) := by
  unfold sAttr
  rw [wpS_bnd0, wp_frz0]
  refine wp_cg fun rv st1 => ?_
  try simp only [hold_1, hold_2]
  rw [wpS_bnd0]
  refine wp_cg fun ro st2 => ?_
  try simp only [hold_1, hold_2]
  generalize rv.frz = rv
  cases rv with
  | ow c => rfl
  | vw i => rfl
  | fz d =>
    cases ro with
    | ow c => rfl
    | vw i => rfl
    | fz d2 =>
      cases d2 with
      | loc n =>
        show wpS (match cellO st2 n with
          | some (c', fs) => if c' = c ∧ fs.length < 1000 then some (.nx δ, st2.set n (some (.obj c (putD f d fs)))) else none
          | none => none) R = optK (cellO st2 n) _
        cases cellO st2 n with
        | none => rfl
        | some z =>
          obtain ⟨c', fs⟩ := z
          dsimp only [optK, guardK]
          by_cases h : c' = c ∧ fs.length < 1000
          · rw [if_pos h]
            exact propext ⟨fun q => ⟨h, q⟩, fun q => q.2⟩
          · rw [if_neg h]
            exact propext ⟨fun q => q.elim, fun q => absurd q.1 h⟩
      | _ => rfl
def newK (st : Sto) (Q : Rv → Sto → Prop) : Rv → Prop
  | .ow c => Q (.fz (.loc st.length)) (st ++ [some c])
  | _ => False
@[simp ↓] theorem newK_o {c : Con} : newK st Q (.ow c) = Q (.fz (.loc st.length)) (st ++ [some c]) := (rfl)
@[simp ↓] theorem wp_cell : wp (gCell ga δ st) Q X = wp (ga δ st) (hold (q := ⟨fun r st1 => newK st1 Q r⟩)) X := by
  unfold gCell
  rw [wp_bnd0]
  refine wp_cg fun r st1 => ?_
  cases r <;> rfl
def mutK (Z : Nat → Prop) : Rv → Prop
  | .fz (.loc n) => Z n
  | _ => False
@[simp ↓] theorem mutK_l {Z : Nat → Prop} : mutK Z (.fz (.loc n)) = Z n := (rfl)
@[simp ↓] theorem wpS_mutC {f : List D → List D → Option (List D)} : wpS (sMutC ga gs f δ st) R = wp (ga δ st) (hold (q := ⟨fun r st1 => mutK (hold (q := ⟨fun n => optK (cellL st1 n) (hold (q := ⟨fun _ => wp (gs δ st1) (hold (q := ⟨fun rs st2 => optK (cellL st2 n) (hold (q := ⟨fun ds => optK ((allD rs).bind (f ds)) (hold (q := ⟨fun ds' => R (.nx δ) (st2.set n (some (.lst ds')))⟩))⟩))⟩)) (hold (q := ⟨fun x st => R (.ex x δ) st⟩))⟩))⟩)) r⟩)) (hold (q := ⟨fun x st => R (.ex x δ) st⟩)) := by
  unfold sMutC
  rw [wpS_bnd0]
  refine wp_cg fun r st1 => ?_
  try simp only [hold_1, hold_2]
  cases r with
  | ow c => rfl
  | vw i => rfl
  | fz d =>
    cases d with
    | loc n =>
      show wpS (match cellL st1 n with
        | some _ => sBnd (gs δ) δ _ st1
        | none => none) R = optK (cellL st1 n) _
      cases cellL st1 n with
      | none => rfl
      | some z =>
        dsimp only [optK]
        rw [wpS_bnd0]
        refine wp_cg fun rs st2 => ?_
        try simp only [hold_1, hold_2]
        cases cellL st2 n with
        | none => rfl
        | some ds =>
          dsimp only [optK]
          try simp only [hold_1, hold_2]
          cases (allD rs).bind (f ds) <;> rfl
    | _ => rfl
def lenOK (Q : Rv → Sto → Prop) (st : Sto) : Rv → Prop
  | .fz (.int n) => guardK (0 ≤ n ∧ n < 2 ^ 63) fun _ => Q (.fz (.int n)) st
  | _ => False
@[simp ↓] theorem lenOK_i : lenOK Q st (.fz (.int i)) = guardK (0 ≤ i ∧ i < 2 ^ 63) (hold (q := ⟨fun _ => Q (.fz (.int i)) st⟩)) := (rfl)
theorem wp_noEx0 {α : Type} {m : M α} {Q : α → Sto → Prop} : wp (noEx m st) Q X = wp (m st) Q noX := by
  unfold noEx wp
  cases m st with
  | none => rfl
  | some o => obtain ⟨o, st'⟩ := o; cases o <;> rfl
@[simp ↓] theorem wp_lenO : wp (kLenO c F δ [x] st) Q X = optK (x.selfD δ st c "__len__") (hold (q := ⟨fun d => wp (F [d] st) (hold (q := ⟨fun r st1 => lenOK Q st1 r⟩)) noX⟩)) := by
  show wp (match x.selfD δ st c "__len__" with
    | some d => bnd (noEx (F [d])) lenK st
    | none => none) Q X = _
  cases x.selfD δ st c "__len__" with
  | none => rfl
  | some d =>
    dsimp only [optK]
    rw [wp_bnd0, wp_noEx0]
    refine wp_cg fun r st1 => ?_
    try simp only [hold_1, hold_2]
    unfold lenK lenOK
    split
    · exact wp_g
    · first
        | rfl
        | (split
           · rename_i z _ h; exact absurd rfl (h _)
           · rfl)
/-! ### objects -/
@[simp ↓] theorem obj_o : (Rv.fz (.obj c fs)).obj δ st = some (c, fs) := (rfl)
@[simp ↓] theorem obj_c : (Rv.fz (.loc n)).obj δ st = cellO st n := by
  unfold Rv.obj cellO
  show (match (Rv.fz (.loc n)).con δ st with
    | some (.obj c fs) => some (c, fs)
    | _ => none) = _
  rfl
@[simp ↓] theorem attrK_p {QD : D → Prop} : attrK c f QD (c', fs) = guardK (c' = c) (hold (q := ⟨fun _ => optK (fs.lookup f) QD⟩)) := (rfl)
@[simp ↓] theorem self_o : (Rv.fz (.obj c' fs)).selfD δ st c mm = if c' = c ∧ fs.lookup mm = none then some (.obj c' fs) else none := (rfl)
theorem self_c (h : cellO st n = some (c, fs)) (h2 : fs.lookup mm = none) : (Rv.fz (.loc n)).selfD δ st c mm = some (.loc n) := by
  unfold Rv.selfD
  dsimp only
  rw [obj_c, h]
  dsimp only
  rw [if_pos ⟨rfl, h2⟩]
theorem cellO_at {l r : Sto} (h : n = l.length) : cellO (l ++ some (.obj c fs) :: r) n = some (c, fs) := by
  subst h
  unfold cellO cellAt
  rw [List.getElem?_append_right (Nat.le_refl _), Nat.sub_self]
  rfl
theorem set_at {l r : Sto} {z w : Option Con} (h : n = l.length) : (l ++ z :: r).set n w = l ++ w :: r := by
  subst h
  rw [List.set_append_right _ _ (Nat.le_refl _), Nat.sub_self]
  rfl
/-! ### two fors -/
@[simp ↓] theorem wp_lc2 {gi gi1 : DEnv → M (List D)} {vs vs1 : List Nat} {tt tt1 : DEnv → M Bool} {te : DEnv → M Rv} {t t1 : GT} : wp (gLc2 gi vs t tt gi1 vs1 t1 tt1 te δ st) Q X = wp (gi δ st) (hold (q := ⟨fun ds st1 => goK (wipeD δ vs) (hold (q := ⟨fun δ' => wp (compG2 t tt gi1 vs1 t1 tt1 te δ' ds [] st1) (hold (q := ⟨fun acc st2 => Q (.ow (.lst acc)) st2⟩)) X⟩))⟩)) X := by
  unfold gLc2
  rw [wp_bnd0]
  refine wp_cg fun ds st1 => ?_
  try simp only [hold_1, hold_2]
  rw [wp_bnd0]
  rfl
end
/-- .. over encoded items; pre: those taken -/
theorem wp_compL2 {β : Type} {enc : β → D} {t t1 : GT} {tt tt1 : DEnv → M Bool} {gi1 : DEnv → M (List D)} {vs1 : List Nat} {te : DEnv → M Rv} {X : Exn → Sto → Prop} (I : List β → List D → Sto → Prop) : ∀ (bs pre0 : List β) {δ : DEnv} {st : Sto} {acc0 : List D} {Q : List D → Sto → Prop}, I pre0 acc0 st →
    (∀ (pre : List β) (b : β) (post : List β) (acc : List D) (st : Sto), pre0 ++ bs = pre ++ b :: post → I pre acc st → optK (t (enc b) δ) fun δ1 => wp (tt δ1 st) (fun c st1 => iteK c (fun _ => wp (gi1 δ1 st1) (fun ds1 st2 => wp (compG t1 tt1 te (wipeD δ1 vs1) ds1 acc st2) (fun acc' st3 => I (pre ++ [b]) acc' st3) noX) noX) (fun _ => I (pre ++ [b]) acc st1)) noX) →
    (∀ acc st, I (pre0 ++ bs) acc st → Q acc st) → wp (compG2 t tt gi1 vs1 t1 tt1 te δ (bs.map enc) acc0 st) Q X
  | [], pre0, δ, st, acc0, Q, h0, hs, he => he _ _ (by rw [List.append_nil]; exact h0)
  | b :: bs, pre0, δ, st, acc0, Q, h0, hs, he => by
    have h1 := hs pre0 b bs acc0 st rfl h0
    rw [List.map_cons]
    unfold compG2
    have next : ∀ acc st, I (pre0 ++ [b]) acc st → wp (compG2 t tt gi1 vs1 t1 tt1 te δ (bs.map enc) acc st) Q X := fun acc st hI =>
      wp_compL2 I bs (pre0 ++ [b]) hI (fun pre b' post acc st e hi => hs pre b' post acc st (by rw [← e]; simp) hi) (fun acc st hi => he acc st (by simpa using hi))
    cases q : t (enc b) δ with
    | none => rw [q] at h1; exact h1.elim
    | some δ1 =>
      rw [q] at h1
      dsimp only [optK] at h1 ⊢
      rw [wp_bnd0, wp_noEx0]
      refine wp_mono0 h1 fun c st1 hc => ?_
      cases c with
      | false =>
        rw [iteK_f] at hc
        exact next acc0 st1 hc
      | true =>
        rw [iteK_t] at hc
        simp only [if_true]
        rw [wp_bnd0, wp_noEx0]
        refine wp_mono0 hc fun ds1 st2 h2 => ?_
        rw [wp_bnd0]
        exact wp_mono0 h2 fun acc' st3 h3 => next acc' st3 h3
end DL

/-! DP: plans and programs as plain data. -/
namespace DL
open PySem PySem.Spec PyProof.Rows L2 TL
set_option autoImplicit false
theorem az_fine {c : Nat} (h : c ∈ letters) : c < 1114112 := by
  have := (mem_letters c).mp h
  omega
def rising (s : List Nat) : Bool := (List.range (s.length - 1)).all fun i => decide ([nth s i] < [nth s (i + 1)])
abbrev Row := List It
abbrev Rule := Nat × List Row
/-- an item of a row of a program with that many strips -/
def It.good (many : Nat) : It → Bool
  | .n i => decide (0 ≤ i ∧ i < many)
  | .s t => t.all fun c => decide (c ∈ letters)
theorem good_fine {many : Nat} {x : It} (h : x.good many = true) : x.fine = true := by
  cases x with
  | n i => rfl
  | s t =>
    simp only [It.good, It.fine, List.all_eq_true, decide_eq_true_eq] at h ⊢
    exact fun c hc => az_fine (h c hc)
structure RowOk (many : Nat) (r : Row) : Prop where
  norm : Normal r
  good : r.all (It.good many) = true
  few : lets r ≤ 60
  len : r.length ≤ 1000
structure RowsOk (many : Nat) (rs : List Row) : Prop where
  row : ∀ r ∈ rs, RowOk many r
  once : (rs.flatMap strips).Nodup
  len : rs.length ≤ 1000
theorem RowOk.fine {many : Nat} {r : Row} (h : RowOk many r) : r.all It.fine = true := by
  have := h.good
  simp only [List.all_eq_true] at this ⊢
  exact fun x hx => good_fine (this x hx)
def rowD (r : Row) : D := .tup (r.map It.d)
def ruleD (p : Rule) : D := .tup [.int p.1, .tup (p.2.map rowD)]
def lineD (l : List Rule) : D := .lst (l.map ruleD)
def lastD : Option Row → D
  | none => .non
  | some r => rowD r
@[simp] theorem lastD_n : lastD none = .non := rfl
@[simp] theorem lastD_s {r : Row} : lastD (some r) = rowD r := rfl
structure Plan where
  reads : List Nat
  many : Nat
  lines : List (List Rule)
  lasts : List (Option Row)
def planD (p : Plan) : D := .tup [.str p.reads, .int p.many, .lst (p.lines.map lineD), .lst (p.lasts.map lastD)]
def progFs (p : Plan) : List (Str × D) := [("letters", .str p.reads), ("strips", .int p.many), ("table", .lst (p.lines.map lineD)), ("ends", .lst (p.lasts.map lastD))]
def progD (p : Plan) : D := .obj "Program" (progFs p)
structure RuleOk (modes many : Nat) (q : Rule) : Prop where
  after : q.1 < modes
  rows : q.2.length = many
  ok : RowsOk many q.2
structure Valid (p : Plan) : Prop where
  word : p.reads.all (fun c => decide (c ∈ letters)) = true
  size : 1 ≤ p.reads.length ∧ p.reads.length ≤ 4
  rise : rising p.reads = true
  many : p.many ≤ 4
  modes : 1 ≤ p.lines.length ∧ p.lines.length ≤ 12
  line : ∀ l ∈ p.lines, l.length = p.reads.length
  rule : ∀ l ∈ p.lines, ∀ q ∈ l, RuleOk p.lines.length p.many q
  lasts : p.lasts.length = p.lines.length
  last : ∀ r, some r ∈ p.lasts → RowsOk p.many [r]
section
variable {p : Plan}
@[simp] theorem look_letters : (progFs p).lookup ("letters" : Str) = some (.str p.reads) := rfl
@[simp] theorem look_strips : (progFs p).lookup ("strips" : Str) = some (.int p.many) := rfl
@[simp] theorem look_table : (progFs p).lookup ("table" : Str) = some (.lst (p.lines.map lineD)) := rfl
@[simp] theorem look_ends : (progFs p).lookup ("ends" : Str) = some (.lst (p.lasts.map lastD)) := rfl
variable {δ : DEnv} {st : Sto}
@[simp] theorem obj_prog : (Rv.fz (progD p)).obj δ st = some (("Program" : Str), progFs p) := rfl
end
end DL

/-! DM9: targets of more names; comprehensions from items on; cuts; membership among items. -/
namespace DL
open PySem PySem.Spec PyProof.Rows L2 TL
set_option autoImplicit false
section
variable {δ : DEnv} {st : Sto} {n k : Nat} {ds : List D} {d : D} {t : GT} {ts : GTs} {Z : DEnv → Prop} {X : Exn → Sto → Prop} {Q : Rv → Sto → Prop} {R : Fl → Sto → Prop} {ga : DEnv → M Rv}
@[simp ↓] theorem optK_tup : optK (tTupD n ts (.tup ds) δ) Z = guardK (ds.length = n) (hold (q := ⟨fun _ => optK (ts ds δ) Z⟩)) := by
  show optK (if ds.length = n then ts ds δ else none) Z = _
  unfold guardK
  split
  · rename_i h; exact propext ⟨fun z => ⟨h, z⟩, fun z => z.2⟩
  · rename_i h; exact propext ⟨fun z => False.elim z, fun z => absurd z.1 h⟩
@[simp ↓] theorem optK_tcons : optK (tsCons t ts (d :: ds) δ) Z = optK (t d δ) (hold (q := ⟨fun δ1 => optK (ts ds δ1) Z⟩)) := by
  show optK ((t d δ).bind (ts ds)) Z = _
  cases t d δ <;> rfl
@[simp ↓] theorem optK_tnil : optK (tsNil [] δ) Z = Z δ := (rfl)
def asgK (t : GT) (δ : DEnv) (st : Sto) (R : Fl → Sto → Prop) : Rv → Prop
  | .fz d => optK (t d δ) fun δ' => R (.nx δ') st
  | _ => False
@[simp ↓] theorem asgK_f : asgK t δ st R (.fz d) = optK (t d δ) (hold (q := ⟨fun δ' => R (.nx δ') st⟩)) := (rfl)
@[simp ↓] theorem wpS_asgT : wpS (sAsgT t ga δ st) R = wp (ga δ st) (hold (q := ⟨fun r st1 => asgK t δ st1 R r.frz⟩)) (hold (q := ⟨fun x st1 => R (.ex x δ) st1⟩)) := by
  unfold sAsgT
  rw [wpS_bnd0, wp_frz0]
  refine wp_cg fun r st1 => ?_
  try simp only [hold_1, hold_2]
  generalize r.frz = r
  cases r with
  | fz d =>
    show wpS (match t d δ with
      | some δ' => some (.nx δ', st1)
      | none => none) R = optK (t d δ) _
    cases t d δ <;> rfl
  | ow c => rfl
  | vw i => rfl
theorem cutQ_to {α : Type} {l : List α} {k : Nat} : cutQ l none (some (k : Int)) = l.take k := by
  unfold cutQ
  rw [HT.sIx_nat, sIx_none]
  simp only [Nat.sub_zero, List.drop_zero]
  by_cases h : k ≤ l.length
  · rw [Nat.min_eq_left h]
  · rw [Nat.min_eq_right (by omega), List.take_length, List.take_of_length_le (by omega)]
end
/-- a comprehension over encoded items, from acc0 on -/
theorem wp_compLA {β : Type} {enc : β → D} {t : GT} {tt : DEnv → M Bool} {te : DEnv → M Rv} {X : Exn → Sto → Prop} (I : List β → List D → Sto → Prop) (bs : List β) {acc0 : List D} {δ : DEnv} {st : Sto} {Q : List D → Sto → Prop} (h0 : I [] acc0 st)
    (hs : ∀ (pre : List β) (b : β) (post : List β) (acc : List D) (st : Sto), bs = pre ++ b :: post → I pre acc st → optK (t (enc b) δ) fun δ1 => wp (tt δ1 st) (fun c st1 => iteK c (fun _ => wp (te δ1 st1) (fun r st2 => itemK r.frz fun y => guardK (acc.length < LIM) (fun _ => I (pre ++ [b]) (acc ++ [y]) st2)) noX) (fun _ => I (pre ++ [b]) acc st1)) noX)
    (he : ∀ acc st, I bs acc st → Q acc st) : wp (compG t tt te δ (bs.map enc) acc0 st) Q X := by
  refine wp_compG (fun k acc st => I (bs.take k) acc st) (bs.map enc) 0 acc0 h0 (fun i d acc st hd hI => ?_) (fun acc st hI => ?_)
  · rw [List.getElem?_map] at hd
    obtain ⟨b, hb, rfl⟩ := Option.map_eq_some_iff.mp hd
    rw [Nat.zero_add] at hI ⊢
    obtain ⟨hi, rfl⟩ := List.getElem?_eq_some_iff.mp hb
    have e : bs = bs.take i ++ bs[i] :: bs.drop (i + 1) := by
      rw [← List.drop_eq_getElem_cons hi, List.take_append_drop]
    rw [take_snoc hb]
    exact hs _ _ _ acc st e hI
  · refine he acc st ?_
    rw [Nat.zero_add, List.length_map, List.take_length] at hI
    exact hI
theorem eqF_it {x y : It} : eqF x.d y.d = decide (x = y) := by
  cases x with
  | n i =>
    cases y with
    | n j =>
      show (i == j) = _
      rw [Bool.eq_iff_iff]
      simp
    | s t => simp [eqF]
  | s t => cases y <;> simp [eqF]
theorem inD_it {x : It} {l : List It} : inD x.d (l.map It.d) = decide (x ∈ l) := by
  unfold inD
  rw [List.any_map]
  induction l with
  | nil => simp
  | cons y l ih =>
    rw [List.any_cons, ih]
    simp only [Function.comp_apply, eqF_it]
    rw [Bool.eq_iff_iff]
    simp only [Bool.or_eq_true, decide_eq_true_eq, List.mem_cons]
    exact ⟨fun z => z.imp Eq.symm id, fun z => z.imp Eq.symm id⟩
theorem flat_it {x : It} : D.flat x.d = true := by cases x <;> rfl
theorem flat_its {l : List It} : (l.map It.d).all D.flat = true := by
  rw [List.all_map]
  exact List.all_eq_true.mpr fun x _ => flat_it
theorem not_in_take {α : Type} {l : List α} {k : Nat} {x : α} (h : l.Nodup) (hk : l[k]? = some x) : x ∉ l.take k := fun hm => by
  obtain ⟨i, hi⟩ := List.mem_iff_getElem?.mp hm
  obtain ⟨hi1, hi2⟩ := List.getElem?_eq_some_iff.mp hi
  rw [List.length_take] at hi1
  have h2 : l[i]? = some x := by rw [List.getElem?_take] at hi; split at hi; exact hi; cases hi
  have := (List.getElem?_inj (by omega) h).mp (h2.trans hk.symm)
  omega
/-- enumerate over encoded items -/
theorem enumD_map {β : Type} {enc : β → D} {l : List β} : enumD (l.map enc) = l.zipIdx.map fun p => .tup [.int (p.2 : Nat), enc p.1] := by
  unfold enumD
  rw [List.zipIdx_map, List.map_map]
  rfl
theorem zipIdx_at {β : Type} {l : List β} {pre post : List (β × Nat)} {p : β × Nat} (h : l.zipIdx = pre ++ p :: post) : l[p.2]? = some p.1 ∧ p.2 = pre.length := by
  have h1 : l.zipIdx[pre.length]? = some p := by rw [h]; simp
  rw [List.getElem?_zipIdx] at h1
  cases q : l[pre.length]? with
  | none => rw [q] at h1; cases h1
  | some x =>
    rw [q] at h1
    cases h1
    simp [q]
end DL

/-! DM10: the draws' store with cells behind. -/
namespace DL
open PySem PySem.Spec PyProof.Rows L2 TL
set_option autoImplicit false
structure AnyBag (st : Sto) : Prop where
  ex : ∃ rest, BagR rest st
def cellsD (lots : List (List Int)) : Sto := lots.map fun l => some (.lst (l.map D.int))
section
variable {rest st : Sto} {c : Option Con} {lots : List (List Int)} {p : Nat}
theorem BagR.any (h : BagR rest st) : AnyBag st := ⟨⟨rest, h⟩⟩
theorem BagR.len (h : BagR rest st) : st.length = 1 + rest.length := by
  obtain ⟨cs, i, a, s, t, _, rfl⟩ := h
  simp; omega
theorem BagR.snoc (h : BagR rest st) : BagR (rest ++ [c]) (st ++ [c]) := by
  obtain ⟨cs, i, a, s, t, hi, rfl⟩ := h
  exact ⟨cs, i, a, s, t, hi, rfl⟩
theorem AnyBag.snoc (h : AnyBag st) : AnyBag (st ++ [c]) := by
  obtain ⟨rest, h⟩ := h.ex
  exact ⟨_, h.snoc⟩
theorem BagR.set {n : Nat} (h : BagR rest st) : BagR (rest.set n c) (st.set (1 + n) c) := by
  obtain ⟨cs, i, a, s, t, hi, rfl⟩ := h
  exact ⟨cs, i, a, s, t, hi, by rw [Nat.add_comm, List.set_cons_succ]⟩
theorem BagR.cell (h : BagR (rest ++ cellsD lots) st) (hp : p < lots.length) : cellL st (1 + rest.length + p) = some (lots[p].map D.int) := by
  obtain ⟨cs, i, a, s, t, hi, rfl⟩ := h
  unfold cellL cellAt
  rw [show 1 + rest.length + p = (rest.length + p) + 1 by omega, List.getElem?_cons_succ, List.getElem?_append_right (by omega), show rest.length + p - rest.length = p by omega]
  unfold cellsD
  rw [List.getElem?_map, List.getElem?_eq_getElem hp]
  rfl
theorem BagR.setC {l : List Int} (h : BagR (rest ++ cellsD lots) st) : BagR (rest ++ cellsD (lots.set p l)) (st.set (1 + rest.length + p) (some (.lst (l.map D.int)))) := by
  have h2 := h.set (n := rest.length + p) (c := some (.lst (l.map D.int)))
  rw [List.set_append_right _ _ (by omega), show rest.length + p - rest.length = p by omega, ← Nat.add_assoc] at h2
  unfold cellsD at h2 ⊢
  rw [List.map_set]
  exact h2
end
theorem flat_set : ∀ {lots : List (List Int)} {p : Nat} {b : Int} (h : p < lots.length), ((lots.set p (lots[p] ++ [b])).flatten).Perm (b :: lots.flatten)
  | l :: ls, 0, b, h => by
    simp only [List.set_cons_zero, List.getElem_cons_zero, List.flatten_cons]
    refine (List.perm_append_comm (l₁ := l) (l₂ := [b])).append_right ls.flatten |>.trans ?_
    simp
  | l :: ls, p + 1, b, h => by
    simp only [List.set_cons_succ, List.getElem_cons_succ, List.flatten_cons]
    refine (List.Perm.append_left l (flat_set (Nat.lt_of_succ_lt_succ h))).trans ?_
    exact List.perm_middle
theorem nodup_n {l : List Int} (h : l.Nodup) : (l.map It.n).Nodup := by
  unfold List.Nodup at h ⊢
  rw [List.pairwise_map]
  exact h.imp fun hab z => hab (by cases z; rfl)
end DL

/-! DM11: readings of DL25 to DL28 evaluated. -/
namespace DL
open PySem PySem.Spec PyProof.Rows L2 TL
set_option autoImplicit false
@[simp] theorem optK_c0 {a : D} {l : List D} {Z : D → Prop} : optK ((a :: l)[0]?) Z = Z a := (rfl)
section
variable {δ : DEnv} {st : Sto} {i j : Int} {x y r : Rv} {ds es : List D} {d : D} {n : Nat} {X : Exn → Sto → Prop} {Q : Rv → Sto → Prop} {R : Fl → Sto → Prop} {ga gb : DEnv → M Rv} {gs : DEnv → M (List Rv)}
@[simp ↓] theorem wp_lstR2 : wp (gLstR2 ga gb δ st) Q X = wp (ga δ st) (hold (q := ⟨fun r st1 => wp (gb δ st1) (hold (q := ⟨fun r' st2 => optK r.asI (hold (q := ⟨fun i => optK r'.asI (hold (q := ⟨fun j => guardK (okR i = true ∧ okR j = true ∧ j - i ≤ 16777216) (hold (q := ⟨fun _ => Q (.ow (.lst (rangeD i (j - i).toNat))) st2⟩))⟩))⟩))⟩)) X⟩)) X := by
  unfold gLstR2
  rw [wp_bnd0]
  refine wp_cg fun r st1 => ?_
  try simp only [hold_1, hold_2]
  rw [wp_bnd0]
  refine wp_cg fun r' st2 => ?_
  try simp only [hold_1, hold_2]
  rw [wp_opt0]
  refine optK_cg fun i => ?_
  try simp only [hold_1, hold_2]
  rw [wp_opt0]
  refine optK_cg fun j => ?_
  exact wp_g
def ixK (Q : Rv → Sto → Prop) (st : Sto) (ds es : List D) : Prop := optK (one1 es) fun d => guardK ((d.flat && ds.all D.flat) = true) fun _ => optK (ds.findIdx? fun x => eqF x d) fun i => Q (.fz (.int (i : Nat))) st
@[simp ↓] theorem ixK_1 : ixK Q st ds [d] = guardK ((d.flat && ds.all D.flat) = true) (hold (q := ⟨fun _ => optK (ds.findIdx? fun x => eqF x d) (hold (q := ⟨fun i => Q (.fz (.int (i : Nat))) st⟩))⟩)) := (rfl)
@[simp ↓] theorem wp_lix : wp (gLIx ga gs δ st) Q X = wp (ga δ st) (hold (q := ⟨fun r st1 => optK (r.asR δ st1) (hold (q := ⟨fun _ => wp (gs δ st1) (hold (q := ⟨fun rs st2 => optK (allD rs) (hold (q := ⟨fun es => optK (r.asR δ st2) (hold (q := ⟨fun ds => ixK Q st2 ds es⟩))⟩))⟩)) X⟩))⟩)) X := by
  unfold gLIx
  rw [wp_bnd0]
  refine wp_cg fun r st1 => ?_
  try simp only [hold_1, hold_2]
  cases r.asR δ st1 with
  | none => rfl
  | some ds0 =>
    dsimp only [optK]
    rw [wp_bnd0]
    refine wp_cg fun rs st2 => ?_
    try simp only [hold_1, hold_2]
    rw [wp_opt0]
    refine optK_cg fun es => ?_
    try simp only [hold_1, hold_2]
    unfold lixK
    cases r.asR δ st2 with
    | none => rfl
    | some ds =>
      dsimp only [optK]
      try simp only [hold_1, hold_2]
      rw [wp_opt0]
      unfold ixK
      refine optK_cg fun d => ?_
      rw [wp_g]
      try simp only [hold_1, hold_2]
      congr 1
      funext _
      rw [wp_opt0]
      rfl
end
/-- a list of plain things has the place of what is in it -/
theorem find_in {β : Type} {enc : β → D} {l : List β} {x : β} (h : x ∈ l) (hr : eqF (enc x) (enc x) = true) : ∃ i, (l.map enc).findIdx? (fun y => eqF y (enc x)) = some i ∧ i < l.length := by
  cases q : (l.map enc).findIdx? (fun y => eqF y (enc x)) with
  | none =>
    rw [List.findIdx?_eq_none_iff] at q
    have := q (enc x) (List.mem_map_of_mem h)
    rw [hr] at this
    cases this
  | some i =>
    refine ⟨i, rfl, ?_⟩
    rw [List.findIdx?_eq_some_iff_getElem] at q
    obtain ⟨hi, _⟩ := q
    simpa using hi
/-- while, by a measure -/
theorem wpS_while {tt : DEnv → M Bool} {body : GS} {R : Fl → Sto → Prop} (I : Nat → DEnv → Sto → Prop)
    (hs : ∀ m δ st, I m δ st → wp (tt δ st) (fun b st1 => iteK b (fun _ => wpS (body δ st1) (turnL (fun δ2 st2 => ∃ m', m' < m ∧ I m' δ2 st2) R)) (fun _ => R (.nx δ) st1)) (fun x st1 => R (.ex x δ) st1)) : ∀ (n m : Nat) {δ : DEnv} {st : Sto}, m < n → I m δ st → wpS (whileG tt body n δ st) R
  | 0, m, δ, st, h, _ => by omega
  | n + 1, m, δ, st, h, hI => by
    have h1 := hs m δ st hI
    unfold whileG
    rw [wpS_bnd0]
    refine wp_mono h1 (fun b st1 hb => ?_) fun x st1 hx => hx
    cases b with
    | false => rw [iteK_f] at hb; exact hb
    | true =>
      rw [iteK_t] at hb
      simp only [if_true]
      obtain ⟨f, st2, e, q⟩ := wpS_of hb
      rw [e]
      cases f with
      | nx δ' => obtain ⟨m', hm, hI'⟩ := q; exact wpS_while I hs n m' (by omega) hI'
      | ct δ' => obtain ⟨m', hm, hI'⟩ := q; exact wpS_while I hs n m' (by omega) hI'
      | bk δ' => exact q
      | rt r => exact q
      | ex x δ' => exact q
end DL

/-! DM12: DL26 to DL30 evaluated. -/
namespace DL
open PySem PySem.Spec PyProof.Rows L2 TL
set_option autoImplicit false
section
variable {δ : DEnv} {st : Sto} {i j : Int} {x y r : Rv} {n : Bool} {c : Str} {F : List D → M Rv} {X : Exn → Sto → Prop} {Q : Rv → Sto → Prop} {ga : DEnv → M Rv}
def isK (c : Str) (Q : Rv → Sto → Prop) (st : Sto) (z : Str × List (Str × D)) : Prop := guardK (z.1 = c) fun _ => Q (.fz (.bl true)) st
@[simp ↓] theorem isK_p {fs : List (Str × D)} {c' : Str} : isK c Q st (c', fs) = guardK (c' = c) (hold (q := ⟨fun _ => Q (.fz (.bl true)) st⟩)) := (rfl)
@[simp ↓] theorem wp_isC : wp (gIsC c ga δ st) Q X = wp (ga δ st) (hold (q := ⟨fun r st1 => optK (r.obj δ st1) (hold (q := ⟨fun z => isK c Q st1 z⟩))⟩)) X := by
  unfold gIsC
  rw [wp_bnd0]
  refine wp_cg fun r st1 => ?_
  try simp only [hold_1, hold_2]
  unfold isK guardK
  cases r.obj δ st1 with
  | none => rfl
  | some z =>
    obtain ⟨c', fs⟩ := z
    dsimp only [optK]
    by_cases h : c' = c
    · rw [if_pos h]
      exact propext ⟨fun q => ⟨h, q⟩, fun q => q.2⟩
    · rw [if_neg h]
      exact propext ⟨fun q => q.elim, fun q => absurd q.1 h⟩
def eqOK (n : Bool) (Q : Rv → Sto → Prop) (st : Sto) : Rv → Prop
  | .fz (.bl b) => Q (.fz (.bl (xor n b))) st
  | _ => False
@[simp ↓] theorem eqOK_b {b : Bool} : eqOK n Q st (.fz (.bl b)) = Q (.fz (.bl (xor n b))) st := (rfl)
@[simp ↓] theorem wp_eqO : wp (kEqO c F n δ x y st) Q X = optK (x.selfD δ st c "__eq__") (hold (q := ⟨fun d => optK (y.selfD δ st c "__eq__") (hold (q := ⟨fun e => wp (F [d, e] st) (hold (q := ⟨fun r st1 => eqOK n Q st1 r⟩)) noX⟩))⟩)) := by
  unfold kEqO
  cases x.selfD δ st c "__eq__" with
  | none => rfl
  | some d =>
    cases y.selfD δ st c "__eq__" with
    | none => rfl
    | some e =>
      show wp (bnd (noEx (F [d, e])) (eqK n) st) Q X = _
      dsimp only [optK]
      try simp only [hold_1, hold_2]
      dsimp only [optK]
      try simp only [hold_1, hold_2]
      rw [wp_bnd0, wp_noEx0]
      refine wp_cg fun r st1 => ?_
      try simp only [hold_1, hold_2]
      cases r with
      | ow c => rfl
      | vw i => rfl
      | fz d => cases d <;> rfl
@[simp ↓] theorem wp_min : wp (kMin δ [x, y] st) Q X = optK x.asI (hold (q := ⟨fun i => optK y.asI (hold (q := ⟨fun j => Q (.fz (.int (if j < i then j else i))) st⟩))⟩)) := by
  show wp (opt x.asI (fun i => opt y.asI fun j => riv (if j < i then j else i)) st) Q X = _
  rw [wp_opt0]
  refine optK_cg fun i => ?_
  try simp only [hold_1, hold_2]
  rw [wp_opt0]
  rfl
@[simp ↓] theorem wp_max : wp (kMax δ [x, y] st) Q X = optK x.asI (hold (q := ⟨fun i => optK y.asI (hold (q := ⟨fun j => Q (.fz (.int (if j > i then j else i))) st⟩))⟩)) := by
  show wp (opt x.asI (fun i => opt y.asI fun j => riv (if j > i then j else i)) st) Q X = _
  rw [wp_opt0]
  refine optK_cg fun i => ?_
  try simp only [hold_1, hold_2]
  rw [wp_opt0]
  rfl
end
end DL

/-! DM13: exceptions and lambdas evaluated. -/
namespace DL
open PySem PySem.Spec PyProof.Rows L2 TL
set_option autoImplicit false
section
variable {δ : DEnv} {st : Sto} {c f : Str} {n : Nat} {l : XIn} {gs : DEnv → M (List Rv)} {ga ge : DEnv → M Rv} {R : Fl → Sto → Prop} {X : Exn → Sto → Prop} {Q : Rv → Sto → Prop} {xs : List Kin} {hs : List Str} {gh : GS} {x q : Str} {tl : List Nat} {cell : Bool} {d : D} {ds : List D} {rs : List Rv} {fs : List (Str × D)} {co : Con}
@[simp] theorem fzs_nil : Rv.fzs [] = some [] := (rfl)
@[simp] theorem fzs_cons : Rv.fzs (.fz d :: rs) = (Rv.fzs rs).map (d :: ·) := (rfl)
@[simp ↓] theorem wpS_raise : wpS (sRaise c n l gs δ st) R = wp (gs δ st) (hold (q := ⟨fun rs st1 => optK (Rv.fzs rs) (hold (q := ⟨fun ds => guardK (ds.length = n) (hold (q := ⟨fun _ => R (.ex ⟨c, xputD ds l []⟩ δ) st1⟩))⟩))⟩)) (hold (q := ⟨fun x st1 => R (.ex x δ) st1⟩)) := by
  unfold sRaise
  rw [wpS_bnd0]
  refine wp_cg fun rs st1 => ?_
  try simp only [hold_1, hold_2]
  cases Rv.fzs rs with
  | none => rfl
  | some ds =>
    dsimp only [optK, guardK]
    by_cases h : ds.length = n
    · rw [if_pos h]
      exact propext ⟨fun q => ⟨h, q⟩, fun q => q.2⟩
    · rw [if_neg h]
      exact propext ⟨fun q => q.elim, fun q => absurd q.1 h⟩
@[simp] theorem xputD_nil : xputD ds [] fs = fs := (rfl)
@[simp] theorem xputD_cons {s : XS} : xputD ds ((f, s) :: l) fs = xputD ds l ((f, s.d ds) :: fs) := (rfl)
@[simp] theorem xs_str {s : List Nat} : (XS.str s).d ds = .str s := (rfl)
@[simp] theorem xs_par {i : Nat} : (XS.par i).d ds = ds.getD i .non := (rfl)
@[simp ↓] theorem wp_toldR_f : wp (toldR tl cell (.fz d) st) Q X = Q (.fz (.tup [.str tl, d])) st := (rfl)
@[simp ↓] theorem wp_toldR_t : wp (toldR tl true (.ow co) st) Q X = Q (.fz (.tup [.str tl, .loc st.length])) (st ++ [some co]) := (rfl)
@[simp ↓] theorem wp_toldR_o : wp (toldR tl false (.ow co) st) Q X = Q (.fz (.tup [.str tl, co.fz])) st := (rfl)
@[simp ↓] theorem wp_told : wp (gTold n x q tl cell xs hs gh ge δ st) Q X = guardK (tabAt st n x q = true) (hold (q := ⟨fun _ => wp (ge δ st) (hold (q := ⟨fun r st1 => wp (toldR tl cell r st1) Q X⟩)) (hold (q := ⟨fun e st1 => wp (toldX xs hs gh e st1) Q X⟩))⟩)) := by
  unfold gTold guardK
  simp only [hold_1, hold_2]
  by_cases h : tabAt st n x q = true
  · rw [if_pos h]
    have e : wp (match ge δ st with
      | some (.ok r, st1) => toldR tl cell r st1
      | some (.ex e, st1) => toldX xs hs gh e st1
      | none => none) Q X = wp (ge δ st) (hold (q := ⟨fun r st1 => wp (toldR tl cell r st1) Q X⟩)) (hold (q := ⟨fun e st1 => wp (toldX xs hs gh e st1) Q X⟩)) := by
      cases ge δ st with
      | none => rfl
      | some o => obtain ⟨o, st1⟩ := o; cases o <;> rfl
    rw [e]
    exact propext ⟨fun q => ⟨h, q⟩, fun q => q.2⟩
  · rw [if_neg h]
    exact propext ⟨fun q => q.elim, fun q => absurd q.1 h⟩
theorem wp_toldX {e : Exn} (h : toldX xs hs gh e st = some (.ok (.fz d), st)) (k : Q (.fz d) st) : wp (toldX xs hs gh e st) Q X := by
  rw [h]
  exact k
@[simp] theorem tabAt_0 : tabAt (some (.tbl x q) :: st) 0 x q = true := by
  unfold tabAt
  simp
end
end DL

/-! DM14: cells by their number. -/
namespace DL
open PySem PySem.Spec PyProof.Rows L2 TL
set_option autoImplicit false
section
variable {δ : DEnv} {st l : Sto} {n : Nat} {c : Option Con} {ds : List D}
@[simp] theorem asQ_loc : Rv.asQ δ st (.fz (.loc n)) = cellL st n := by
  unfold Rv.asQ Rv.asL Rv.con cellL
  dsimp only
@[simp] theorem subAt_1 {i : Int} {d : D} : subAt (c :: some (.lst ds) :: l) 1 (.fz (.int i)) d = setIx ds i d := (rfl)
@[simp] theorem cellL_1 : cellL (c :: some (.lst ds) :: l) 1 = some ds := (rfl)
@[simp] theorem cellL_2 {c2 : Option Con} : cellL (c :: c2 :: some (.lst ds) :: l) 2 = some ds := (rfl)
end
end DL

/-! DL38: isinstance of what may be a cell. -/
namespace DL
open PySem PySem.Spec PyProof.Rows L2 TL
set_option autoImplicit false
def Rv.datS (δ : DEnv) (st : Sto) : Rv → Option D
  | .fz (.loc n) => (cellAt st n).map Con.fz
  | r => r.dat δ
theorem datS_v {g : GG} {H0 F H H1 : Hp} {ρ : List Addr} {δ : DEnv} {σ : L2.St} {st : Sto} {r : Rv} {v : V} {d : D} (S : St0 g H0 F ρ δ st σ H) (R : RepR g F ρ δ σ H1 H r v) (e : r.datS δ st = some d) : Rep g H ρ d v := by
  unfold Rv.datS at e
  split at e
  · rename_i n
    cases q : cellAt st n with
    | none => rw [q] at e; cases e
    | some c =>
      rw [q] at e
      cases e
      unfold cellAt at q
      split at q
      · rename_i c' q2
        cases q
        obtain ⟨a, h1, h2, h3⟩ := S.sto.live n c q2
        cases R with
        | loc h =>
          rw [h1] at h
          cases h
          exact Rep.mono (frz_same S.fs) ⟨[], (List.append_nil ρ).symm⟩ (h3.frz S.fs)
      · cases q
  · exact dat_v S R e
def Rv.tyS (δ : DEnv) (st : Sto) (r : Rv) : Option String := (r.datS δ st).bind D.tyN
theorem tyS_v {K : PySem.W.Frag} {mg : Str → Option Value} {H0 F H H1 : Hp} {ρ : List Addr} {δ : DEnv} {σ : L2.St} {st : Sto} {r : Rv} {v : V} {t : String} (S : St0 ⟨K, mg⟩ H0 F ρ δ st σ H) (R : RepR ⟨K, mg⟩ F ρ δ σ H1 H r v) (e : r.tyS δ st = some t) : t ∈ tyNames ∧ TyX K H v (.type t) := by
  unfold Rv.tyS at e
  cases q : r.datS δ st with
  | none => rw [q] at e; cases e
  | some d =>
    rw [q] at e
    exact ⟨tyN_mem e, tyN_v (datS_v S R q) e⟩
def kIsiS1 : KN := k2 fun δ x y st => opt (x.tyS δ st) (fun t => match y with
  | .fz (.ty n) => if n ∈ tyNames ∧ n ≠ "NoneType" then rbv (isA t n) else fail
  | _ => fail) st
def kIsiST : KN := k2 fun δ x y st => opt (x.tyS δ st) (fun t => opt y.asT fun ds => opt (tys? ds) fun ns => rbv (ns.any (isA t))) st
def kIsiS : KN := fun δ rs => if (rs.getD 1 (.vw 0)).isTy then kIsiS1 δ rs else kIsiST δ rs
section
variable {C : Ctx}
theorem ok_isiS1 : FnK C (.builtin "isinstance") kIsiS1 := fnK2 fun X ok => ⟨_, call_isi, fun W H0 F ρ δ st σ H Hs x y v u Q S R R' P => by
  obtain ⟨t, e2, P⟩ := opt_ok P
  obtain ⟨tm, ty⟩ := tyS_v S R e2
  match y, R', P with
  | .fz (.ty n), R', P =>
    dsimp only at P
    split at P
    · rename_i hn
      cases R'
      exact ⟨v, _, .type t, .type n, isA t n, rfl, .ty n, ty, kit_ty (kitB_all t tm n hn.1 hn.2), pB S P⟩
    · exact P.elim
  | .ow _, _, P => exact P.elim
  | .vw _, _, P => exact P.elim
  | .fz .non, _, P => exact P.elim
  | .fz (.bl _), _, P => exact P.elim
  | .fz (.int _), _, P => exact P.elim
  | .fz (.str _), _, P => exact P.elim
  | .fz (.tup _), _, P => exact P.elim
  | .fz (.lst _), _, P => exact P.elim
  | .fz (.rol _), _, P => exact P.elim
  | .fz (.obj _ _), _, P => exact P.elim
  | .fz (.dk _), _, P => exact P.elim
  | .fz (.dt _), _, P => exact P.elim
  | .fz (.exc _ _), _, P => exact P.elim
  | .fz (.tab _ _), _, P => exact P.elim
  | .fz (.loc _), _, P => exact P.elim⟩
theorem ok_isiST : FnK C (.builtin "isinstance") kIsiST := fnK2 fun X ok => ⟨_, call_isiR, fun W H0 F ρ δ st σ H Hs x y v u Q S R R' P => by
  obtain ⟨t, e2, P⟩ := opt_ok P
  obtain ⟨tm, ty⟩ := tyS_v S R e2
  obtain ⟨ds, e3, P⟩ := opt_ok P
  obtain ⟨ns, e4, P⟩ := opt_ok P
  obtain ⟨p, vs, rfl, h1, f1, h2⟩ := asT_v S R' e3
  obtain ⟨us, k1, k2⟩ := tys_v (K := X.K) tm h2 e4
  exact ⟨v, p, vs, .type t, us, _, rfl, h1, k1, ty, k2, pB S P⟩⟩
theorem ok_isiS : FnK C (.builtin "isinstance") kIsiS := ok_isiS1.or ok_isiST
end
/-! evaluated -/
section
variable {δ : DEnv} {st : Sto} {n : Nat} {b : Bool} {i : Int} {s : List Nat} {ds : List D} {r : Rv} {Q : Rv → Sto → Prop} {X : Exn → Sto → Prop}
@[simp] theorem tyS_non : (Rv.fz .non).tyS δ st = some "NoneType" := (rfl)
@[simp] theorem tyS_bl : (Rv.fz (.bl b)).tyS δ st = some "bool" := (rfl)
@[simp] theorem tyS_int : (Rv.fz (.int i)).tyS δ st = some "int" := (rfl)
@[simp] theorem tyS_str : (Rv.fz (.str s)).tyS δ st = some "str" := (rfl)
@[simp] theorem tyS_tup : (Rv.fz (.tup ds)).tyS δ st = some "tuple" := (rfl)
@[simp] theorem tyS_lst : (Rv.fz (.lst ds)).tyS δ st = some "list" := (rfl)
theorem tyS_loc (h : cellL st n = some ds) : (Rv.fz (.loc n)).tyS δ st = some "list" := by
  unfold cellL at h
  unfold Rv.tyS Rv.datS
  split at h
  · rename_i ds' e
    dsimp only
    rw [e]
    rfl
  · cases h
theorem wp_isiS1 {n : String} (h : n ∈ tyNames ∧ n ≠ "NoneType") : wp (kIsiS δ [r, .fz (.ty n)] st) Q X = optK (r.tyS δ st) fun t => Q (.fz (.bl (isA t n))) st := by
  show wp (opt (r.tyS δ st) (fun t => if n ∈ tyNames ∧ n ≠ "NoneType" then rbv (isA t n) else fail) st) Q X = _
  rw [wp_opt0]
  refine optK_cg fun t => ?_
  rw [if_pos h]
  rfl
@[simp ↓] theorem wp_isiS_list : wp (kIsiS δ [r, .fz (.ty "list")] st) Q X = optK (r.tyS δ st) (hold (q := ⟨fun t => Q (.fz (.bl (isA t "list"))) st⟩)) := wp_isiS1 (by decide)
@[simp ↓] theorem wp_isiS_tuple : wp (kIsiS δ [r, .fz (.ty "tuple")] st) Q X = optK (r.tyS δ st) (hold (q := ⟨fun t => Q (.fz (.bl (isA t "tuple"))) st⟩)) := wp_isiS1 (by decide)
@[simp ↓] theorem wp_isiS_int : wp (kIsiS δ [r, .fz (.ty "int")] st) Q X = optK (r.tyS δ st) (hold (q := ⟨fun t => Q (.fz (.bl (isA t "int"))) st⟩)) := wp_isiS1 (by decide)
@[simp ↓] theorem wp_isiS_str : wp (kIsiS δ [r, .fz (.ty "str")] st) Q X = optK (r.tyS δ st) (hold (q := ⟨fun t => Q (.fz (.bl (isA t "str"))) st⟩)) := wp_isiS1 (by decide)
@[simp ↓] theorem wp_isiS_bool : wp (kIsiS δ [r, .fz (.ty "bool")] st) Q X = optK (r.tyS δ st) (hold (q := ⟨fun t => Q (.fz (.bl (isA t "bool"))) st⟩)) := wp_isiS1 (by decide)
@[simp ↓] theorem wp_isiS_lt : wp (kIsiS δ [r, .fz (.tup [.ty "list", .ty "tuple"])] st) Q X = optK (r.tyS δ st) (hold (q := ⟨fun t => Q (.fz (.bl (isA t "list" || isA t "tuple"))) st⟩)) := by
  show wp (opt (r.tyS δ st) (fun t => opt (Rv.fz (.tup [.ty "list", .ty "tuple"])).asT fun ds => opt (tys? ds) fun ns => rbv (ns.any (isA t))) st) Q X = _
  rw [wp_opt0]
  refine optK_cg fun t => ?_
  simp [tys?, tyNames]
end
end DL

/-! DL39: a text times an int. -/
namespace DL
open PySem PySem.Spec PyProof.Rows L2 TL
set_option autoImplicit false
theorem fold_rep {α : Type} (a : Array α) : ∀ (m : Nat) (b : Array α), (List.replicate m a).foldl (· ++ ·) b = b ++ ((List.replicate m a.toList).flatten).toArray
  | 0, b => by simp
  | m + 1, b => by
    rw [List.replicate_succ, List.foldl_cons, fold_rep a m, List.replicate_succ, List.flatten_cons, Array.append_assoc]
    congr 1
    apply Array.toList_inj.mp
    simp
theorem txt_mul (s : List Nat) (k : Int) : Txt.mul ⟨s.toArray⟩ k = ⟨((List.replicate k.toNat s).flatten).toArray⟩ := by
  unfold Txt.mul
  split
  · rename_i h
    rw [show k.toNat = 0 by omega]
    rfl
  · split
    · rename_i h1 h2
      rw [Bool.or_eq_true] at h2
      rcases h2 with h2 | h2
      · rw [show k = 1 from eq_of_beq h2]
        simp
      · have e : s = [] := by
          have := eq_of_beq h2
          rw [show (Str.mk s.toArray).length = s.length from by simp [Str.length]] at this
          exact List.length_eq_zero_iff.mp this
        subst e
        simp
    · rw [fold_rep]
      simp
theorem op_repS {X : Cx} : OpR X (binaryOp .Mult) (fun x y H Q => ∃ (s : List Nat) (k : Int), x = .str ⟨s.toArray⟩ ∧ y = .int k ∧ (-(2 ^ 63) ≤ k ∧ k < 2 ^ 63 ∧ s.length * k.toNat ≤ LIM) ∧ Q (.str ⟨((List.replicate k.toNat s).flatten).toArray⟩) H) := by
  intro pins st σ H x y v u Q I rx ry h
  obtain ⟨s, k, rfl, rfl, ⟨h1, h2, h3⟩, q⟩ := h
  obtain ⟨t, rfl⟩ := rx
  obtain ⟨t2, rfl⟩ := ry
  have hl : (Str.mk s.toArray).length = s.length := by simp [Str.length]
  have h3' : s.length * k.toNat ≤ 16777216 := by unfold LIM at h3; exact h3
  have ok : MulOk ⟨s.toArray⟩ k := by
    refine ⟨by simp; omega, fun hn _ hg => ?_, fun hn _ => ?_⟩
    · rw [hl] at hg
      have h4 : (s.length : Int) ≤ (2 ^ 63 - 1) / k := by
        refine (Int.le_ediv_iff_mul_le (by omega)).mpr ?_
        have h5 : (s.length : Int) * k = ((s.length * k.toNat : Nat) : Int) := by
          rw [Int.natCast_mul, Int.toNat_of_nonneg (by omega)]
        rw [h5]
        omega
      omega
    · rw [hl]
      unfold PySem.Builtin.Str.tooLong
      rw [sizeLine_eq]
      simp
      omega
  refine SB.mul ok fun t' kk => ?_
  rw [txt_mul]
  exact ⟨.str ⟨((List.replicate k.toNat s).flatten).toArray⟩, H, I.tok kk, ⟨t', rfl⟩, q⟩
def isSI (_ : DEnv) (x y : Rv) : Bool := x.asS.isSome && y.asI.isSome
def kMulS : K2 := fun _ x y => opt x.asS fun s => opt y.asI fun k => if -(2 ^ 63) ≤ k ∧ k < 2 ^ 63 ∧ s.length * k.toNat ≤ LIM then rsv ((List.replicate k.toNat s).flatten) else fail
def kMulX : K2 := kOr kMulS kMul isSI
section
variable {C : Ctx}
theorem ok_mulS : OpK C .Mult kMulS := fun X ok => ⟨_, op_repS, fun W H0 F ρ δ st σ H Hs Ht x y v u Q S R R' P => by
  unfold kMulS at P
  obtain ⟨s, e1, P⟩ := opt_ok P
  obtain ⟨k, e2, P⟩ := opt_ok P
  split at P
  · rename_i h
    exact ⟨s, k, asS_v R e1, asI_v R' e2, h, pS S P⟩
  · exact P.elim⟩
theorem ok_mulX : OpK C .Mult kMulX := ok_mulS.or ok_mul
end
section
variable {δ : DEnv} {st : Sto} {i j : Int} {s : List Nat} {x y : Rv} {ds : List D} {Q : Rv → Sto → Prop} {X : Exn → Sto → Prop}
@[simp ↓] theorem kMulX_s (h : -(2 ^ 63) ≤ i ∧ i < 2 ^ 63 ∧ s.length * i.toNat ≤ LIM) : kMulX δ (.fz (.str s)) (.fz (.int i)) = ret (.fz (.str ((List.replicate i.toNat s).flatten))) := by
  show (if -(2 ^ 63) ≤ i ∧ i < 2 ^ 63 ∧ s.length * i.toNat ≤ LIM then rsv ((List.replicate i.toNat s).flatten) else fail) = _
  rw [if_pos h]
  rfl
@[simp ↓] theorem kMulX_i : kMulX δ (.fz (.int i)) y = kMul δ (.fz (.int i)) y := (rfl)
@[simp ↓] theorem kMulX_t : kMulX δ (.fz (.tup ds)) y = kMul δ (.fz (.tup ds)) y := (rfl)
@[simp ↓] theorem kMulX_l : kMulX δ (.fz (.lst ds)) y = kMul δ (.fz (.lst ds)) y := (rfl)
@[simp ↓] theorem kMulX_o {c : Con} : kMulX δ (.ow c) y = kMul δ (.ow c) y := (rfl)
@[simp ↓] theorem kMulX_v {n : Nat} : kMulX δ (.vw n) y = kMul δ (.vw n) y := (rfl)
@[simp ↓] theorem kMulX_c {n : Nat} : kMulX δ (.fz (.loc n)) y = kMul δ (.fz (.loc n)) y := (rfl)
@[simp ↓] theorem wp_kIx_o : wp (kIx δ (.ow (.lst ds)) (.fz (.int i)) st) Q X = optK (atI ds i) (hold (q := ⟨fun d => Q (.fz d) st⟩)) := by
  show wp (opt (atI ds i) (fun d => ret (.fz d)) st) Q X = _
  rw [wp_opt0]
  rfl
end
end DL

/-! DL40: tuple * int, any int. -/
namespace DL
open PySem PySem.Spec PyProof.Rows L2 TL
set_option autoImplicit false
theorem tuple_mul1W (l : Addr) (items : Array Value) (n : Nat) (dd : Option Addr) (sl : Array (Option Value)) (x : Int) (u : Tok) (c0 : (decide (x < -(2 ^ 63)) || decide (x ≥ 2 ^ 63)) = false) (c1 : (items.isEmpty || x == 1) = true) :
    Meets (Builtin.«tuple.__mul__» ⟨[.ref l, .int x u], []⟩) (fun _ R s => s.heap.get? l = some { cls := .type "tuple", dict := dd, data := .seq items n, slots := sl } ∧ R (.ok (.ret (Value.ref l))) s) :=
  .of_wp fun prog w A R s h => by
    obtain ⟨hp, g, d, tk, os⟩ := s
    obtain ⟨hl, h⟩ := h
    have f1 := AutoSeq1.idx_int
    wp_walk using wpAny_loadPart' hl
    repeat (first
      | (refine wpAny_ite_false (decide_eq_false (by rw [c0]; exact Bool.false_ne_true)) ?_; wp_walk using wpAny_loadPart' hl)
      | (refine wpAny_ite_true (decide_eq_true (by rw [c1])) ?_; wp_walk using wpAny_loadPart' hl)
      | (refine wpAny_ite_true (decide_eq_true rfl) ?_; wp_walk using wpAny_loadPart' hl))
    exact ⟨_, rfl, h⟩
theorem tuple_mul0W (l : Addr) (items : Array Value) (n : Nat) (dd : Option Addr) (sl : Array (Option Value)) (x : Int) (u : Tok) (c0 : (decide (x < -(2 ^ 63)) || decide (x ≥ 2 ^ 63)) = false) (c1 : (items.isEmpty || x == 1) = false) (c2 : (decide (x ≤ 0) || items.isEmpty) = true) :
    Meets (Builtin.«tuple.__mul__» ⟨[.ref l, .int x u], []⟩) (fun _ R s => s.heap.get? l = some { cls := .type "tuple", dict := dd, data := .seq items n, slots := sl } ∧
      R (.ok (.ret (Value.ref s.heap.objs.size))) { s with heap := s.heap.push { cls := Value.type "tuple", data := Data.seq #[] }, toks := s.toks }) :=
  .of_wp fun prog w A R s h => by
    obtain ⟨hp, g, d, tk, os⟩ := s
    obtain ⟨hl, h⟩ := h
    have f1 := AutoSeq1.idx_int
    have hsz : (#[] : Array Value).size ≤ sizeLine := Nat.zero_le _
    wp_walk using wpAny_loadPart' hl
    repeat (first
      | (refine wpAny_ite_false (decide_eq_false (by rw [c0]; exact Bool.false_ne_true)) ?_; wp_walk using wpAny_loadPart' hl)
      | (refine wpAny_ite_false (decide_eq_false (by rw [c1]; exact Bool.false_ne_true)) ?_; wp_walk using wpAny_loadPart' hl)
      | (refine wpAny_ite_true (decide_eq_true (by rw [c2])) ?_; wp_walk using wpAny_loadPart' hl)
      | (refine wpAny_ite_false (decide_eq_false (Nat.not_lt.mpr hsz)) ?_; wp_walk using wpAny_loadPart' hl))
    exact ⟨_, rfl, h⟩
def rRepT1 (K : PySem.W.Frag) : R2 := fun x y H Q => ∃ l k xs, x = .ref l ∧ y = .int k ∧ SqT K H l xs ∧ (xs = [] ∨ k = 1) ∧ -(2 ^ 63) ≤ k ∧ k < 2 ^ 63 ∧ Q (.ref l) H
def rRepT0 (K : PySem.W.Frag) : R2 := fun x y H Q => ∃ l k xs, x = .ref l ∧ y = .int k ∧ SqT K H l xs ∧ xs ≠ [] ∧ k ≤ 0 ∧ -(2 ^ 63) ≤ k ∧ ∀ p, H p = none → Q (.ref p) (upd H p (.tup []))
section
variable {X : Cx}
theorem op_repT1 : OpR X (binaryOp .Mult) (rRepT1 X.K) := by
  intro pins s σ H x y v u Q I rx ry h
  obtain ⟨l, k, xs, rfl, rfl, hT, hne, h1, h2, q⟩ := h
  cases rx
  obtain ⟨t, rfl⟩ := ry
  obtain ⟨its, r, ⟨⟨cls, dd, data, sl⟩, ho, hc, n, hd⟩, hs⟩ := I.tuple hT
  simp only at hc hd
  subst hc hd
  have c0 : (decide (k < -(2 ^ 63)) || decide (k ≥ 2 ^ 63)) = false := by
    rw [decide_eq_false (by omega), decide_eq_false (by omega)] <;> rfl
  have c1 : (its.toArray.isEmpty || k == 1) = true := by
    rcases hne with rfl | rfl
    · cases r
      rfl
    · simp
  refine wpAny_binaryOp_repeat_ref (T := "tuple") (U := "int") (by decide) ⟨_, ho, rfl⟩ (fun s' => typeIs_int s' k t) noFill_tuple_mul F.fills_int_mul F.slot_int_rmul repeat_tuple F.slot_int_index.lookup
    (call_meets F.slot_int_rmul (typeIs_int s k t) F.entry_int_rmul (F.args_int_rmul_2 _ _) (int_rmul_tuple k t l its.toArray n dd sl)
      ⟨ho, rfl, ⟨_, ho, rfl⟩, call_meets F.slot_tuple_mul ⟨_, ho, rfl⟩ F.entry_tuple_mul (F.args_tuple_mul_2 _ _) (tuple_mul1W l its.toArray n dd sl k t c0 c1) ⟨ho, ?_⟩⟩)
  exact ⟨.ref l, H, I, rfl, q⟩
theorem op_repT0 : OpR X (binaryOp .Mult) (rRepT0 X.K) := by
  intro pins s σ H x y v u Q I rx ry h
  obtain ⟨l, k, xs, rfl, rfl, hT, hne, h1, h2, q⟩ := h
  cases rx
  obtain ⟨t, rfl⟩ := ry
  obtain ⟨its, r, ⟨⟨cls, dd, data, sl⟩, ho, hc, n, hd⟩, hs⟩ := I.tuple hT
  simp only at hc hd
  subst hc hd
  have hle : its.length = xs.length := r.length.symm
  have hn : its ≠ [] := fun e => hne (by
    rw [e] at hle
    exact List.eq_nil_of_length_eq_zero hle.symm)
  have hi : its.toArray.isEmpty = false := by
    cases its with
    | nil => exact absurd rfl hn
    | cons a b => rfl
  have c0 : (decide (k < -(2 ^ 63)) || decide (k ≥ 2 ^ 63)) = false := by
    rw [decide_eq_false (by omega), decide_eq_false (by omega)] <;> rfl
  have c1 : (its.toArray.isEmpty || k == 1) = false := by
    rw [hi, Bool.false_or]
    exact beq_eq_false_iff_ne.mpr (by omega)
  have c2 : (decide (k ≤ 0) || its.toArray.isEmpty) = true := by
    rw [decide_eq_true h1]; rfl
  refine wpAny_binaryOp_repeat_ref (T := "tuple") (U := "int") (by decide) ⟨_, ho, rfl⟩ (fun s' => typeIs_int s' k t) noFill_tuple_mul F.fills_int_mul F.slot_int_rmul repeat_tuple F.slot_int_index.lookup
    (call_meets F.slot_int_rmul (typeIs_int s k t) F.entry_int_rmul (F.args_int_rmul_2 _ _) (int_rmul_tuple k t l its.toArray n dd sl)
      ⟨ho, rfl, ⟨_, ho, rfl⟩, call_meets F.slot_tuple_mul ⟨_, ho, rfl⟩ F.entry_tuple_mul (F.args_tuple_mul_2 _ _) (tuple_mul0W l its.toArray n dd sl k t c0 c1 c2) ⟨ho, ?_⟩⟩)
  refine ⟨.ref s.heap.objs.size, _, I.laid (t' := s.toks) (o := .tup []) (fun b ob q => Heap.get?_push_of_some _ q) (Nat.le_refl _) ?_, rfl, q _ (I.hok.fresh (Nat.le_refl _))⟩
  exact ⟨Nat.zero_le _, [], .nil, IsTup.new _ _⟩
end
section
variable {C : Ctx}
def kMulT1 : K2 := fun _ x y => opt x.asT fun xs => opt y.asI fun j => if (xs = [] ∨ j = 1) ∧ -(2 ^ 63) ≤ j ∧ j < 2 ^ 63 then ret (.fz (.tup xs)) else fail
def kMulT0 : K2 := fun _ x y => opt x.asT fun xs => opt y.asI fun j => if xs ≠ [] ∧ j ≤ 0 ∧ -(2 ^ 63) ≤ j then ret (.fz (.tup [])) else fail
theorem ok_mulT1 : OpK C .Mult kMulT1 := fun X ok => ⟨_, op_repT1, fun W H0 F ρ δ st σ H Hs Ht x y v u Q S R R' P => by
  unfold kMulT1 at P
  obtain ⟨s, e1, P⟩ := opt_ok P
  obtain ⟨t, e2, P⟩ := opt_ok P
  obtain ⟨a, vs, rfl, h1, f1, r1⟩ := asT_v S R e1
  split at P
  · rename_i h
    refine ⟨a, t, vs, rfl, asI_v R' e2, h1, h.1.imp (fun e => ?_) id, h.2.1, h.2.2, PostE.done0 P S (.tup f1 r1)⟩
    subst e
    cases r1
    rfl
  · exact P.elim⟩
theorem ok_mulT0 : OpK C .Mult kMulT0 := fun X ok => ⟨_, op_repT0, fun W H0 F ρ δ st σ H Hs Ht x y v u Q S R R' P => by
  unfold kMulT0 at P
  obtain ⟨s, e1, P⟩ := opt_ok P
  obtain ⟨t, e2, P⟩ := opt_ok P
  obtain ⟨a, vs, rfl, h1, f1, r1⟩ := asT_v S R e1
  split at P
  · rename_i h
    refine ⟨a, t, vs, rfl, asI_v R' e2, h1, fun e => ?_, h.2.1, h.2.2, fun p np => new_tup P S .nil p np⟩
    subst e
    cases r1
    exact h.1 rfl
  · exact P.elim⟩
/-- a tuple times an int -/
def isT1 (_ : DEnv) (x y : Rv) : Bool := (match x.asT with
  | some [] => true
  | _ => false) || (match y.asI with
  | some j => decide (j = 1)
  | _ => false)
def isT0 (_ : DEnv) (x y : Rv) : Bool := x.asT.isSome && (match y.asI with
  | some j => decide (j ≤ 0)
  | _ => false)
def kMulY : K2 := kOr kMulT1 (kOr kMulT0 kMulT isT0) isT1
theorem ok_mulY : OpK C .Mult kMulY := ok_mulT1.or (ok_mulT0.or ok_mulT)
theorem kMulY_t {δ : DEnv} {ds : List D} {j : Int} (h : -(2 ^ 63) ≤ j ∧ j ≤ 1000 ∧ ds.length ≤ 1000) : kMulY δ (.fz (.tup ds)) (.fz (.int j)) = ret (.fz (.tup (List.replicate j.toNat ds).flatten)) := by
  unfold kMulY kOr
  by_cases h1 : isT1 δ (Rv.fz (.tup ds)) (Rv.fz (.int j)) = true
  · rw [if_pos h1]
    have h2 : ds = [] ∨ j = 1 := by
      unfold isT1 at h1
      rw [Bool.or_eq_true] at h1
      rcases h1 with h1 | h1
      · cases ds with
        | nil => exact .inl rfl
        | cons d ds => exact nomatch h1
      · exact .inr (of_decide_eq_true h1)
    show (if (ds = [] ∨ j = 1) ∧ -(2 ^ 63) ≤ j ∧ j < 2 ^ 63 then ret (Rv.fz (.tup ds)) else fail) = _
    rw [if_pos ⟨h2, h.1, by omega⟩]
    rcases h2 with rfl | rfl
    · simp
    · simp
  · rw [if_neg h1]
    have h3 : ds ≠ [] ∧ j ≠ 1 := by
      refine ⟨fun e => h1 ?_, fun e => h1 ?_⟩
      · subst e; rfl
      · subst e
        unfold isT1
        rw [Bool.or_eq_true]
        exact .inr rfl
    by_cases h2 : j ≤ 0
    · rw [if_pos (show isT0 δ (Rv.fz (.tup ds)) (Rv.fz (.int j)) = true from decide_eq_true h2)]
      show (if ds ≠ [] ∧ j ≤ 0 ∧ -(2 ^ 63) ≤ j then ret (Rv.fz (.tup [])) else fail) = _
      rw [if_pos ⟨h3.1, h2, h.1⟩, show j.toNat = 0 by omega]
      rfl
    · rw [if_neg (show ¬ isT0 δ (Rv.fz (.tup ds)) (Rv.fz (.int j)) = true from fun z => h2 (of_decide_eq_true z))]
      show (if ds ≠ [] ∧ 2 ≤ j ∧ j ≤ 1000 ∧ ds.length ≤ 1000 then ret (Rv.fz (.tup (List.replicate j.toNat ds).flatten)) else fail) = _
      rw [if_pos ⟨h3.1, by omega, h.2.1, h.2.2⟩]
@[simp ↓] theorem wp_kMulY_t {δ : DEnv} {ds : List D} {j : Int} {st : Sto} {Q : Rv → Sto → Prop} {X : Exn → Sto → Prop} (h : -(2 ^ 63) ≤ j ∧ j ≤ 1000 ∧ ds.length ≤ 1000) : wp (kMulY δ (.fz (.tup ds)) (.fz (.int j)) st) Q X = Q (.fz (.tup (List.replicate j.toNat ds).flatten)) st := by
  rw [kMulY_t h]
  rfl
end
end DL

/-! DQ: programs run, as plain functions. -/
namespace DL
open PySem PySem.Spec PyProof.Rows L2 TL
set_option autoImplicit false
/-! ### sums -/
theorem perm_sum {l m : List Nat} (h : l.Perm m) : l.sum = m.sum := by
  induction h with
  | nil => rfl
  | cons x _ ih => simp [ih]
  | swap x y l => simp; omega
  | trans _ _ a b => exact a.trans b
theorem nodup_sum (g : Nat → Nat) : ∀ (n : Nat) (l : List Nat), l.Nodup → (∀ i ∈ l, i < n) → (l.map g).sum ≤ ((List.range n).map g).sum
  | 0, l, _, h => by
    cases l with
    | nil => simp
    | cons x l => have := h x (by simp); omega
  | n + 1, l, hn, h => by
    rw [List.range_succ, List.map_append, List.sum_append]
    by_cases z : n ∈ l
    · have p := List.perm_cons_erase z
      have e := perm_sum (p.map g)
      rw [List.map_cons, List.sum_cons] at e
      have hn2 : (n :: l.erase n).Nodup := p.nodup_iff.mp hn
      have := nodup_sum g n (l.erase n) (List.nodup_cons.mp hn2).2 (fun i hi => by
        have h1 := h i (List.mem_of_mem_erase hi)
        have h2 : i ≠ n := fun e => (List.nodup_cons.mp hn2).1 (e ▸ hi)
        omega)
      simp; omega
    · have := nodup_sum g n l hn (fun i hi => by
        have h1 := h i hi
        have h2 : i ≠ n := fun e => z (e ▸ hi)
        omega)
      simp; omega
theorem range_getD {α : Type} (tx : List α) (d : α) : (List.range tx.length).map (fun i => tx.getD i d) = tx := by
  refine List.ext_getElem (by simp) fun i h1 h2 => ?_
  simp [List.getD_eq_getElem?_getD, List.getElem?_eq_getElem h2]
/-! ### rows filled by any signs -/
section
variable {α : Type}
def itG (f : Nat → α) (tx : List (List α)) : It → List α
  | .s t => t.map f
  | .n i => tx.getD i.toNat []
@[simp] theorem itG_s {f : Nat → α} {tx : List (List α)} {t : List Nat} : itG f tx (.s t) = t.map f := rfl
@[simp] theorem itG_n {f : Nat → α} {tx : List (List α)} {i : Int} : itG f tx (.n i) = tx.getD i.toNat [] := rfl
def rowG (f : Nat → α) (tx : List (List α)) (r : Row) : List α := (r.map (itG f tx)).flatten
theorem rowG_snoc {f : Nat → α} {tx : List (List α)} {r : Row} {x : It} : rowG f tx (r ++ [x]) = rowG f tx r ++ itG f tx x := by simp [rowG]
theorem rowG_app {f : Nat → α} {tx : List (List α)} {r s : Row} : rowG f tx (r ++ s) = rowG f tx r ++ rowG f tx s := by simp [rowG]
theorem rowG_nil {f : Nat → α} {tx : List (List α)} : rowG f tx [] = [] := rfl
theorem rowG_id (tx : List (List Nat)) (r : Row) : rowG id tx r = fillT r tx := by
  unfold rowG fillT
  congr 1
  refine List.map_congr_left fun x _ => ?_
  cases x <;> simp
theorem rowG_map {β : Type} (g : α → β) (f : Nat → α) (tx : List (List α)) (r : Row) : rowG (fun c => g (f c)) (tx.map (List.map g)) r = (rowG f tx r).map g := by
  unfold rowG
  rw [List.map_flatten, List.map_map]
  congr 1
  refine List.map_congr_left fun x _ => ?_
  cases x with
  | s t => simp
  | n i =>
    simp only [itG_n, Function.comp_apply]
    have := getD_map (List.map g) tx [] i.toNat
    simpa using this
/-- how long: the words' letters, and each strip once -/
theorem rowG_len (f : Nat → α) (tx : List (List α)) (r : Row) : (rowG f tx r).length = lets r + ((strips r).map fun x => (itG f tx x).length).sum := by
  induction r with
  | nil => simp [rowG, strips]
  | cons x r ih =>
    have e : rowG f tx (x :: r) = itG f tx x ++ rowG f tx r := by simp [rowG]
    rw [e, List.length_append, ih, lets_cons]
    cases x with
    | s t => simp [strips, It.size]; omega
    | n i => simp [strips, It.size]; omega
theorem rowsG_len (f : Nat → α) (tx : List (List α)) (rs : List Row) : ((rs.map (rowG f tx)).map List.length).sum = (rs.map lets).sum + ((rs.flatMap strips).map fun x => (itG f tx x).length).sum := by
  induction rs with
  | nil => simp
  | cons r rs ih =>
    simp only [List.map_cons, List.sum_cons, List.flatMap_cons, List.map_append, List.sum_append]
    rw [ih, rowG_len]
    omega
def It.num : It → Nat
  | .n i => i.toNat
  | .s _ => 0
theorem strips_good {many : Nat} {rs : List Row} (h : RowsOk many rs) : ∀ x ∈ rs.flatMap strips, ∃ i : Nat, x = .n i ∧ i < many := fun x hx => by
  obtain ⟨r, hr, hx⟩ := List.mem_flatMap.mp hx
  unfold strips at hx
  obtain ⟨h1, h2⟩ := List.mem_filter.mp hx
  have h3 := List.all_eq_true.mp (h.row r hr).good x h1
  cases x with
  | s t => simp at h2
  | n i =>
    have h4 : 0 ≤ i ∧ i < many := by simpa [It.good] using h3
    obtain ⟨k, rfl⟩ := Int.eq_ofNat_of_zero_le h4.1
    exact ⟨k, rfl, by omega⟩
theorem strips_sum {many : Nat} {rs : List Row} (h : RowsOk many rs) (f : Nat → α) {tx : List (List α)} (hl : tx.length = many) : ((rs.flatMap strips).map fun x => (itG f tx x).length).sum ≤ (tx.map List.length).sum := by
  have hg := strips_good h
  have e : (rs.flatMap strips).map (fun x => (itG f tx x).length) = ((rs.flatMap strips).map It.num).map fun i => (tx.getD i []).length := by
    rw [List.map_map]
    refine List.map_congr_left fun x hx => ?_
    obtain ⟨i, rfl, _⟩ := hg x hx
    simp [It.num]
  have hn : ((rs.flatMap strips).map It.num).Nodup := by
    have := h.once
    unfold List.Nodup at this ⊢
    rw [List.pairwise_map]
    refine this.imp_of_mem fun {a b} ha hb hab z => hab ?_
    obtain ⟨i, rfl, _⟩ := hg a ha
    obtain ⟨j, rfl, _⟩ := hg b hb
    simp only [It.num] at z
    congr 1
    omega
  have := nodup_sum (fun i => (tx.getD i []).length) many _ hn (fun i hi => by
    obtain ⟨x, hx, rfl⟩ := List.mem_map.mp hi
    obtain ⟨i, rfl, h2⟩ := hg x hx
    simpa [It.num] using h2)
  rw [e]
  refine Nat.le_trans this ?_
  have e2 : (List.range many).map (fun i => (tx.getD i []).length) = tx.map List.length := by
    have := congrArg (List.map List.length) (range_getD tx [])
    rw [List.map_map, hl] at this
    exact this
  rw [e2]
  exact Nat.le_refl _
theorem lets_sum60 {many : Nat} {rs : List Row} (h : ∀ r ∈ rs, RowOk many r) : (rs.map lets).sum ≤ 60 * rs.length := by
  induction rs with
  | nil => simp
  | cons r rs ih =>
    have h1 := (h r (by simp)).few
    have h2 := ih fun x hx => h x (List.mem_cons_of_mem _ hx)
    simp only [List.map_cons, List.sum_cons, List.length_cons]
    omega
theorem rowsG_few {many B : Nat} {rs : List Row} (h : RowsOk many rs) (f : Nat → α) {tx : List (List α)} (hl : tx.length = many) (hB : (tx.map List.length).sum ≤ B) : ((rs.map (rowG f tx)).map List.length).sum ≤ B + 60 * rs.length := by
  rw [rowsG_len]
  have := strips_sum h f hl
  have := lets_sum60 h.row
  omega
theorem sum_mem : ∀ {l : List Nat} {x : Nat}, x ∈ l → x ≤ l.sum
  | y :: l, x, h => by
    rw [List.sum_cons]
    rcases List.mem_cons.mp h with rfl | h
    · omega
    · have := sum_mem h; omega
theorem len_sum {l : List (List α)} {x : List α} (h : x ∈ l) : x.length ≤ (l.map List.length).sum := sum_mem (List.mem_map_of_mem h)
end
/-! ### letters found -/
theorem find_sig {s : List Nat} {c : Nat} (h : c ∈ s) : s.findIdx? (· == c) = some (s.findIdx (· == c)) ∧ s.findIdx (· == c) < s.length := by
  have h2 : s.findIdx (· == c) < s.length := List.findIdx_lt_length_of_exists ⟨c, h, by simp⟩
  refine ⟨?_, h2⟩
  cases q : s.findIdx? (· == c) with
  | none =>
    rw [List.findIdx?_eq_none_iff] at q
    have := q c h
    simp at this
  | some i => rw [List.findIdx?_eq_some_iff_findIdx_eq] at q; rw [q.2]
/-! ### programs -/
def Plan.at' (p : Plan) (m c : Nat) : Rule := (p.lines.getD m []).getD (p.reads.findIdx (· == c)) (0, [])
structure At (p : Plan) (m c : Nat) : Prop where
  hm : m < p.lines.length
  hi : p.reads.findIdx? (· == c) = some (p.reads.findIdx (· == c))
  hk : p.reads.findIdx (· == c) < (p.lines[m]'hm).length
  eq : (p.lines[m]'hm)[p.reads.findIdx (· == c)]'hk = p.at' m c
  ok : RuleOk p.lines.length p.many (p.at' m c)
theorem Valid.at {p : Plan} (h : Valid p) {m c : Nat} (hm : m < p.lines.length) (hc : c ∈ p.reads) : At p m c := by
  obtain ⟨h1, h2⟩ := find_sig hc
  have h3 := h.line _ (List.getElem_mem hm)
  have hk : p.reads.findIdx (· == c) < (p.lines[m]'hm).length := by rw [h3]; exact h2
  have e : (p.lines[m]'hm)[p.reads.findIdx (· == c)]'hk = p.at' m c := by
    unfold Plan.at'
    simp [List.getD_eq_getElem?_getD, List.getElem?_eq_getElem hm, List.getElem?_eq_getElem hk]
  refine ⟨hm, h1, hk, e, ?_⟩
  rw [← e]
  exact h.rule _ (List.getElem_mem hm) _ (List.getElem_mem hk)
section
variable {α : Type}
structure StG (p : Plan) (B : Nat) (s : Nat × List (List α)) : Prop where
  mode : s.1 < p.lines.length
  len : s.2.length = p.many
  few : (s.2.map List.length).sum ≤ B
def Plan.step (p : Plan) (f : Nat → α) (c : Nat) (s : Nat × List (List α)) : Nat × List (List α) := ((p.at' s.1 c).1, (p.at' s.1 c).2.map (rowG f s.2))
theorem StG.step {p : Plan} (h : Valid p) {B c : Nat} {s : Nat × List (List α)} (hs : StG p B s) (hc : c ∈ p.reads) (f : Nat → α) : StG p (B + 240) (p.step f c s) := by
  have a := (h.at hs.mode hc).ok
  refine ⟨a.after, ?_, ?_⟩
  · simp [Plan.step, a.rows]
  · have := rowsG_few a.ok f hs.len hs.few
    have h2 := h.many
    have h3 := a.rows
    simp only [Plan.step]
    omega
def Plan.start (p : Plan) : Nat × List (List α) := (0, List.replicate p.many [])
theorem StG.start {p : Plan} (h : Valid p) : StG p 0 (p.start : Nat × List (List α)) := by
  have := h.modes
  refine ⟨by simp only [Plan.start]; omega, by simp [Plan.start], by simp [Plan.start]⟩
/-- along a text: f by the letters' places -/
def Plan.go (p : Plan) (f : Nat → Nat → α) (w : List Nat) : Nat × List (List α) := w.zipIdx.foldl (fun s q => p.step (f q.2) q.1 s) p.start
theorem go_nil {p : Plan} {f : Nat → Nat → α} : p.go f [] = p.start := rfl
theorem go_snoc {p : Plan} {f : Nat → Nat → α} {w : List Nat} {c : Nat} : p.go f (w ++ [c]) = p.step (f w.length) c (p.go f w) := by
  unfold Plan.go
  rw [List.zipIdx_append, List.foldl_append]
  simp
theorem go_ok {p : Plan} (h : Valid p) (f : Nat → Nat → α) (w : List Nat) (hw : ∀ c ∈ w, c ∈ p.reads) : StG p (240 * w.length) (p.go f w) := by
  induction w using rev_ind with
  | h0 => simpa [go_nil] using StG.start h
  | hs w c ih =>
    rw [go_snoc]
    have := (ih fun x hx => hw x (by simp [hx])).step h (hw c (by simp)) (f w.length)
    rw [List.length_append]
    simpa [Nat.mul_add] using this
/-- what stands at the end -/
def Plan.out (p : Plan) (f : Nat → α) (s : Nat × List (List α)) : Option (List α) := (p.lasts.getD s.1 none).map (rowG f s.2)
theorem last_at {p : Plan} (h : Valid p) {m : Nat} (hm : m < p.lines.length) : ∃ hl : m < p.lasts.length, p.lasts[m] = p.lasts.getD m none := by
  have hl : m < p.lasts.length := by rw [h.lasts]; exact hm
  exact ⟨hl, by simp [List.getD_eq_getElem?_getD, List.getElem?_eq_getElem hl]⟩
theorem last_ok {p : Plan} (h : Valid p) {m : Nat} {r : Row} (hm : m < p.lines.length) (e : p.lasts.getD m none = some r) : RowsOk p.many [r] := by
  obtain ⟨hl, e2⟩ := last_at h hm
  refine h.last r ?_
  rw [← e, ← e2]
  exact List.getElem_mem hl
theorem last_few {p : Plan} (h : Valid p) {B : Nat} {s : Nat × List (List α)} (hs : StG p B s) {r : Row} (e : p.lasts.getD s.1 none = some r) (f : Nat → α) : (rowG f s.2 r).length ≤ B + 60 := by
  have := rowsG_few (last_ok h hs.mode e) f hs.len hs.few
  simpa using this
/-- signs told otherwise -/
theorem step_map {β : Type} (g : α → β) {p : Plan} (f : Nat → α) (c : Nat) (s : Nat × List (List α)) : p.step (fun x => g (f x)) c (s.1, s.2.map (List.map g)) = ((p.step f c s).1, (p.step f c s).2.map (List.map g)) := by
  simp only [Plan.step, List.map_map]
  congr 1
  refine List.map_congr_left fun r _ => ?_
  exact rowG_map g f s.2 r
theorem go_map {β : Type} (g : α → β) {p : Plan} (f : Nat → Nat → α) (w : List Nat) : p.go (fun k x => g (f k x)) w = ((p.go f w).1, (p.go f w).2.map (List.map g)) := by
  induction w using rev_ind with
  | h0 => simp [go_nil, Plan.start]
  | hs w c ih => rw [go_snoc, go_snoc, ih, step_map g (f w.length)]
theorem out_map {β : Type} (g : α → β) {p : Plan} (f : Nat → α) (s : Nat × List (List α)) : p.out (fun x => g (f x)) (s.1, s.2.map (List.map g)) = (p.out f s).map (List.map g) := by
  unfold Plan.out
  cases p.lasts.getD s.1 none with
  | none => rfl
  | some r => simp [rowG_map]
end
/-- the states along a text -/
def Plan.trace (p : Plan) (w : List Nat) : List (Nat × List (List Nat)) := (List.range (w.length + 1)).map fun i => p.go (fun _ c => c) (w.take i)
theorem trace_nil (p : Plan) : p.trace [] = [p.start] := by simp [Plan.trace, go_nil]
theorem trace_snoc (p : Plan) (w : List Nat) (c : Nat) : p.trace (w ++ [c]) = p.trace w ++ [p.go (fun _ c => c) (w ++ [c])] := by
  unfold Plan.trace
  rw [List.length_append, List.length_singleton, List.range_succ, List.map_append]
  congr 1
  · refine List.map_congr_left fun i hi => ?_
    have := List.mem_range.mp hi
    rw [List.take_append_of_le_length (by omega)]
  · simp [List.take_of_length_le]
theorem trace_len (p : Plan) (w : List Nat) : (p.trace w).length = w.length + 1 := by simp [Plan.trace]
@[simp] theorem out_vw {δ : DEnv} {n : Nat} : Rv.out δ (.vw n) = (ownAt δ n).map .ow := (rfl)
section
variable {δ : DEnv} {p : Plan}
@[simp] theorem kIx_plan0 : kIx δ (.fz (planD p)) (.fz (.int 0)) = ret (.fz (.str p.reads)) := (rfl)
@[simp] theorem kIx_plan1 : kIx δ (.fz (planD p)) (.fz (.int 1)) = ret (.fz (.int p.many)) := (rfl)
@[simp] theorem kIx_plan2 : kIx δ (.fz (planD p)) (.fz (.int 2)) = ret (.fz (.lst (p.lines.map lineD))) := (rfl)
@[simp] theorem kIx_plan3 : kIx δ (.fz (planD p)) (.fz (.int 3)) = ret (.fz (.lst (p.lasts.map lastD))) := (rfl)
end
/-! ### signs that rows write -/
section
variable {α : Type}
theorem rowG_mem {P : α → Prop} {f : Nat → α} {tx : List (List α)} {r : Row} (h1 : ∀ t, It.s t ∈ r → ∀ c ∈ t, P (f c)) (h2 : ∀ l ∈ tx, ∀ x ∈ l, P x) : ∀ x ∈ rowG f tx r, P x := fun x hx => by
  unfold rowG at hx
  obtain ⟨l, hl, hx⟩ := List.mem_flatten.mp hx
  obtain ⟨b, hb, rfl⟩ := List.mem_map.mp hl
  cases b with
  | s t =>
    obtain ⟨c, hc, rfl⟩ := List.mem_map.mp hx
    exact h1 t hb c hc
  | n i =>
    simp only [itG_n, List.getD_eq_getElem?_getD] at hx
    cases q : tx[i.toNat]? with
    | none => rw [q] at hx; simp at hx
    | some l => rw [q] at hx; exact h2 l (List.mem_of_getElem? q) x hx
theorem row_word {many : Nat} {r : Row} (h : RowOk many r) {t : List Nat} (ht : It.s t ∈ r) : ∀ c ∈ t, c ∈ letters := fun c hc => by
  have := List.all_eq_true.mp h.good _ ht
  have := List.all_eq_true.mp (show (t.all fun c => decide (c ∈ letters)) = true from this) c hc
  exact of_decide_eq_true this
theorem step_mem {p : Plan} (h : Valid p) {P : α → Prop} {f : Nat → α} (hf : ∀ c ∈ letters, P (f c)) {B c : Nat} {s : Nat × List (List α)} (hs : StG p B s) (hc : c ∈ p.reads) (h2 : ∀ l ∈ s.2, ∀ x ∈ l, P x) : ∀ l ∈ (p.step f c s).2, ∀ x ∈ l, P x := fun l hl => by
  simp only [Plan.step] at hl
  obtain ⟨r, hr, rfl⟩ := List.mem_map.mp hl
  have hrow := (h.at hs.mode hc).ok.ok.row r hr
  exact rowG_mem (fun t ht c hc => hf c (row_word hrow ht c hc)) h2
theorem go_mem {p : Plan} (h : Valid p) {P : α → Prop} {f : Nat → Nat → α} (hf : ∀ k, ∀ c ∈ letters, P (f k c)) (w : List Nat) (hw : ∀ c ∈ w, c ∈ p.reads) : ∀ l ∈ (p.go f w).2, ∀ x ∈ l, P x := by
  induction w using rev_ind with
  | h0 =>
    intro l hl x hx
    simp only [go_nil, Plan.start] at hl
    rw [(List.mem_replicate.mp hl).2] at hx
    cases hx
  | hs w c ih =>
    rw [go_snoc]
    have hw2 : ∀ x ∈ w, x ∈ p.reads := fun x hx => hw x (by simp [hx])
    exact step_mem h (hf w.length) (go_ok h f w hw2) (hw c (by simp)) (ih hw2)
theorem out_mem {p : Plan} (h : Valid p) {P : α → Prop} {f : Nat → α} (hf : ∀ c ∈ letters, P (f c)) {B : Nat} {s : Nat × List (List α)} (hs : StG p B s) (h2 : ∀ l ∈ s.2, ∀ x ∈ l, P x) {l : List α} (e : p.out f s = some l) : ∀ x ∈ l, P x := by
  unfold Plan.out at e
  cases hq : p.lasts.getD s.1 none with
  | none => rw [hq] at e; cases e
  | some r =>
    rw [hq] at e
    cases e
    have hrow := (last_ok h hs.mode hq).row r (by simp)
    exact rowG_mem (fun t ht c hc => hf c (row_word hrow ht c hc)) h2
end
/-! ### small facts -/
@[simp] theorem okR_l0 : okR 0 = true := by decide
@[simp] theorem okR_l1 : okR 1 = true := by decide
@[simp] theorem okR_l2 : okR 2 = true := by decide
@[simp] theorem okR_l3 : okR 3 = true := by decide
@[simp] theorem okR_l4 : okR 4 = true := by decide
@[simp] theorem okR_l5 : okR 5 = true := by decide
@[simp] theorem okR_l6 : okR 6 = true := by decide
@[simp] theorem okR_l7 : okR 7 = true := by decide
@[simp] theorem okR_l8 : okR 8 = true := by decide
@[simp] theorem okR_l9 : okR 9 = true := by decide
@[simp] theorem okR_l10 : okR 10 = true := by decide
@[simp] theorem okR_l11 : okR 11 = true := by decide
@[simp] theorem okR_l12 : okR 12 = true := by decide
@[simp] theorem isNon_c {n : Nat} : Rv.isNon (.fz (.loc n)) = false := (rfl)
@[simp] theorem isNon_o {c : Str} {fs : List (Str × D)} : Rv.isNon (.fz (.obj c fs)) = false := (rfl)
@[simp] theorem isNon_row {r : Row} : Rv.isNon (.fz (rowD r)) = false := (rfl)
/-! the store's cells -/
theorem cell_at {l r : Sto} {n : Nat} {ds : List D} (h : n = l.length) : cellL (l ++ some (.lst ds) :: r) n = some ds := by
  subst h
  unfold cellL cellAt
  rw [List.getElem?_append_right (Nat.le_refl _), Nat.sub_self]
  rfl
theorem cell_app {st l : Sto} {n : Nat} {ds : List D} (h : cellL st n = some ds) : cellL (st ++ l) n = some ds := by
  unfold cellL cellAt at h ⊢
  have hn : n < st.length := by
    refine Nat.lt_of_not_le fun z => ?_
    rw [List.getElem?_eq_none z] at h
    cases h
  rw [List.getElem?_append_left hn]
  exact h
end DL

/-! DL41: what is new becomes a cell, else it stays; comprehensions over a list that is a cell. -/
namespace DL
open PySem PySem.Spec PyProof.Rows L2 TL
set_option autoImplicit false
def gCellM (ga : DEnv → M Rv) : DEnv → M Rv := fun δ => bnd (ga δ) fun r st => match r with
  | .ow c => some (.ok (.fz (.loc st.length)), st ++ [some c])
  | .fz d => some (.ok (.fz d), st)
  | _ => none
section
variable {C : Ctx} {e : Expr} {ga : DEnv → M Rv}
theorem de_cellM (ha : DE C e ga) : DE C e (gCellM ga) := fun X W ok tk => by
  refine peW (ha X W ok tk) fun σ H Q ⟨H0, F, ρ, δ, st, S, P⟩ => ?_
  refine ⟨H0, F, ρ, δ, st, S, PostE_bnd0 P fun F1 ρ1 st1 H1 v r A1 S1 R1 P1 => ?_⟩
  cases r with
  | fz d => exact P1 v ρ1 F1 H1 A1 S1 R1
  | vw j => exact P1.elim
  | ow c =>
    obtain ⟨ρ2, A2, S2, R2⟩ := cell_step S A1 S1 R1
    exact P1 v ρ2 F1 H1 A2 S2 R2
end
/-! ### a list that is a cell, walked by its indexes -/
def compC (n : Nat) (t : GT) (tt : DEnv → M Bool) (te : DEnv → M Rv) (δ : DEnv) : Nat → Nat → List D → M (List D)
  | 0, i, acc => fun st => match cellL st n with
    | some ds => if ds.length ≤ i then some (.ok acc, st) else none
    | none => none
  | k + 1, i, acc => fun st => match (cellL st n).bind (·[i]?) with
    | none => none
    | some d => (match t d δ with
      | none => fail
      | some δ1 => bnd (noEx (tt δ1)) fun b => if b then bnd (noEx (gFrz te δ1)) fun r => match r with
          | .fz y => if acc.length < LIM then compC n t tt te δ k (i + 1) (acc ++ [y]) else fail
          | _ => fail
        else compC n t tt te δ k (i + 1) acc) st
theorem compC_0 {n : Nat} {t : GT} {tt : DEnv → M Bool} {te : DEnv → M Rv} {δ : DEnv} {i : Nat} {acc : List D} {st : Sto} : compC n t tt te δ 0 i acc st = match cellL st n with
    | some ds => if ds.length ≤ i then some (.ok acc, st) else none
    | none => none := rfl
theorem compC_s {n : Nat} {t : GT} {tt : DEnv → M Bool} {te : DEnv → M Rv} {δ : DEnv} {k i : Nat} {acc : List D} {st : Sto} : compC n t tt te δ (k + 1) i acc st = match (cellL st n).bind (·[i]?) with
    | none => none
    | some d => (match t d δ with
      | none => fail
      | some δ1 => bnd (noEx (tt δ1)) fun b => if b then bnd (noEx (gFrz te δ1)) fun r => match r with
          | .fz y => if acc.length < LIM then compC n t tt te δ k (i + 1) (acc ++ [y]) else fail
          | _ => fail
        else compC n t tt te δ k (i + 1) acc) st := rfl
def gLcC (ga : DEnv → M Rv) (vs : List Nat) (t : GT) (tt : DEnv → M Bool) (te : DEnv → M Rv) : DEnv → M Rv := fun δ => bnd (gFrz ga δ) fun r st => match r with
  | .fz (.loc n) => (match cellL st n with
    | some ds => bnd (compC n t tt te (wipeD δ vs) ds.length 0 []) (fun acc => ret (.ow (.lst acc))) st
    | none => none)
  | _ => none
/-- the state of a turn: acc stands at L -/
def CompAtC (g : GG) (W : WX) (H0 F0 Hb : Hp) (ρ0 : List Addr) (ρ1 : List Addr) (δ0 : DEnv) (σ0 : L2.St) (vs : List Nat) (n : Nat) (t : GT) (tt : DEnv → M Bool) (te : DEnv → M Rv) (len : Nat) (L : Addr) (Q : VK) (i : Nat) (H : Hp) : Prop :=
  ∃ F ρ st acc xs, After ρ0 F0 Hb ρ F H ∧ (∃ l, ρ = ρ1 ++ l) ∧ St0 g H0 F ρ δ0 st σ0 H ∧ F L = none ∧ L ∉ ρ ∧ H L = some (.lst xs) ∧ Reps g F ρ acc xs ∧ PostE g W H0 F0 ρ0 δ0 σ0 Hb (bnd (compC n t tt te (wipeD δ0 vs) (len - i) i acc) (fun acc => ret (.ow (.lst acc))) st) Q
theorem cellL_at {st : Sto} {n : Nat} {ds : List D} (h : cellL st n = some ds) : st[n]? = some (some (.lst ds)) := by
  unfold cellL at h
  split at h
  · rename_i ds' e
    cases h
    unfold cellAt at e
    split at e
    · rename_i c e2
      cases e
      exact e2
    · cases e
  · cases h
section
variable {C : Ctx} {tg iter elt : Expr} {ifs : List Expr} {ga : DEnv → M Rv} {t : GT} {tt : DEnv → M Bool} {te : DEnv → M Rv} {pos : Pos} {T : List Nat} {scope : Scope} {own : List (Str × Nat)}
theorem live_list {g : GG} {H0 F H : Hp} {ρ ρ1 : List Addr} {δ : DEnv} {st : Sto} {σ : L2.St} {n : Nat} {a : Addr} {ds : List D} (S : St0 g H0 F ρ δ st σ H) (ha : ρ1[n]? = some a) (p : ∃ l, ρ = ρ1 ++ l) (h : cellL st n = some ds) : ∃ vs, H a = some (.lst vs) ∧ Reps g F ρ ds vs := by
  obtain ⟨b, h1, h2, vs, h3, h4⟩ := S.sto.live n _ (cellL_at h)
  obtain ⟨l, rfl⟩ := p
  rw [List.getElem?_append_left (List.getElem?_eq_some_iff.mp ha).1, ha] at h1
  cases h1
  exact ⟨vs, h3, h4⟩
theorem lcC_rd {X : Cx} {W : WX} {σ : L2.St} {H : Hp} {Q : VK} {vs : List Nat} (hT : ∀ i ∈ T, i ∈ vs) (h : rdE (xg X) W (gLcC ga vs t tt te) σ H Q) : tLc (iList X.K (rdE (xg X) W (gFrz ga))) (rdG (xg X) t T) (rdT (xg X) W0 tt) (rdE (xg X) W0 (gFrz te)) vs σ H Q := by
  obtain ⟨H0, F0, ρ0, δ, st, S0, P⟩ := h
  refine ⟨H0, F0, ρ0, δ, st, S0, ?_⟩
  unfold gLcC at P
  refine PostE_bnd0 P fun F1 ρ1 st1 H1 v r A1 S1 R1 P1 => ?_
  match r, R1, P1 with
  | .fz (.loc n), R1, P1 =>
    have R2 : ∃ a, v = .ref a ∧ ρ1[n]? = some a := by
      have R2 : Rep (xg X) F1 ρ1 (.loc n) v := R1
      cases R2 with
      | loc h => exact ⟨_, rfl, h⟩
    obtain ⟨a, rfl, hra⟩ := R2
    change PostE _ _ _ _ _ _ _ _ (match cellL st1 n with
      | some ds => bnd (compC n t tt te (wipeD δ vs) ds.length 0 []) (fun acc => ret (.ow (.lst acc))) st1
      | none => none) Q at P1
    cases hc : cellL st1 n with
    | none => rw [hc] at P1; exact P1.elim
    | some ds =>
      rw [hc] at P1
      dsimp only at P1
      obtain ⟨vs1, hl1, _⟩ := live_list S1 hra ⟨[], by simp⟩ hc
      refine ⟨a, rfl, ⟨vs1, .of hl1⟩, fun L nL => ?_⟩
      have nLρ : L ∉ ρ1 := S1.nmem nL
      have fL : F1 L = none := S1.fs.free nL
      have bL : H L = none := A1.back (fun z => nLρ (A1.mem z)) nL
      have ns : ∀ (i : Nat) (c : Con), δ[i]? = some (some (.ow c)) → σ[i]? ≠ some (some (.ref L)) := fun i c q z => by
        obtain ⟨u, u1, a, rfl, _, _, _, k⟩ := S0.slot i _ q
        rw [z] at u1; cases u1
        obtain ⟨o, ho⟩ := k.there
        rw [bL] at ho; cases ho
      refine ⟨fun i m H' => m = ds.length - i ∧ i ≤ ds.length ∧ CompAtC (xg X) W H0 F0 H ρ0 ρ1 δ σ vs n t tt te ds.length L Q i H', ⟨ds.length, by simp, Nat.zero_le _, F1, ρ1, st1, [], [], A1.fill bL, ⟨[], by simp⟩, S1.fill fL nLρ ns, fL, nLρ, upd_same, .nil, P1⟩, ?_⟩
      rintro i m H2 ⟨rfl, hi, F2, ρ2, st2, acc, xs, A2, p2, S2, fL2, nL2, hL2, r2, P2⟩
      by_cases hlt : i < ds.length
      · obtain ⟨k, hk⟩ : ∃ k, ds.length - i = k + 1 := ⟨ds.length - i - 1, by omega⟩
        have hk2 : ds.length - (i + 1) = k := by omega
        rw [hk] at P2
        cases hc2 : cellL st2 n with
        | none => unfold bnd at P2; rw [compC_s, hc2] at P2; exact P2.elim
        | some es =>
          cases hd : es[i]? with
          | none => unfold bnd at P2; rw [compC_s, hc2, Option.bind_some, hd] at P2; exact P2.elim
          | some d =>
            have ee := compC_s (n := n) (t := t) (tt := tt) (te := te) (δ := wipeD δ vs) (k := k) (i := i) (acc := acc) (st := st2)
            rw [hc2, Option.bind_some, hd] at ee
            dsimp only at ee
            unfold bnd at P2
            rw [ee] at P2
            change PostE _ _ _ _ _ _ _ _ (bnd (match t d (wipeD δ vs) with
              | none => fail
              | some δ1 => bnd (noEx (tt δ1)) fun b => if b then bnd (noEx (gFrz te δ1)) fun r => match r with
                  | .fz y => if acc.length < LIM then compC n t tt te (wipeD δ vs) k (i + 1) (acc ++ [y]) else fail
                  | _ => fail
                else compC n t tt te (wipeD δ vs) k (i + 1) acc) (fun acc => ret (.ow (.lst acc))) st2) Q at P2
            obtain ⟨vs2, hl2, rr2⟩ := live_list S2 hra p2 hc2
            obtain ⟨v2, hv2, rd2⟩ := rr2.get hd
            refine .inr ⟨⟨vs2, v2, .of hl2, hv2⟩, CompAtC (xg X) W H0 F0 H ρ0 ρ1 δ σ vs n t tt te ds.length L Q (i + 1), fun H' h' => ⟨ds.length - (i + 1), by omega, rfl, hlt, h'⟩, fun x H3 hy => ?_⟩
            obtain ⟨rfl, hx⟩ := hy
            have hx2 := hx vs2 (.of hl2)
            rw [hv2] at hx2
            cases hx2
            refine ⟨H0, F2, ρ2, wipeD δ vs, st2, d, wipe_ok S2 vs, rd2, ?_⟩
            cases q : t d (wipeD δ vs) with
            | none => rw [q] at P2; exact P2.elim
            | some δ1 =>
              rw [q] at P2
              dsimp only at P2
              intro σ1 o1 S4
              refine ⟨by rw [wipe_off hT o1]; exact wipe_off (T := vs) (fun i h => h) ⟨wipe_length σ vs, fun i h => wipe_out h⟩, H0, F2, ρ2, δ1, st2, S4, noEx_T P2 fun F4 ρ4 st4 H4 b A4 S5 P4 => ?_⟩
              obtain ⟨l1, hl1⟩ := p2
              obtain ⟨l4, hl4⟩ := A4.ex
              have S6 := S2.after A4 ⟨S5.fs, S5.sto⟩
              have hL4 := A4.hk _ _ hL2 nL2
              cases b with
              | false =>
                simp only [Bool.false_eq_true, if_false] at P4 ⊢
                refine ⟨F4, ρ4, st4, acc, xs, A2.trans A4, ⟨l1 ++ l4, by rw [hl4, hl1, List.append_assoc]⟩, S6, A4.unf hL2 nL2 fL2, A4.nmem nL2 hL2, hL4, r2.mono A4.ff A4.ex, ?_⟩
                rw [hk2]
                exact P4
              | true =>
                simp only [if_true] at P4 ⊢
                refine ⟨H0, F4, ρ4, δ1, st4, S5, noEx_E P4 fun F5 ρ5 st5 H5 y r A5 S7 R5 P5 => ?_⟩
                have nL4 := A4.nmem nL2 hL2
                have fL4 := A4.unf hL2 nL2 fL2
                have nL5 := A5.nmem nL4 hL4
                have fL5 := A5.unf hL4 nL4 fL4
                have hL5 := A5.hk _ _ hL4 nL4
                obtain ⟨l5, hl5⟩ := A5.ex
                have S8 := S6.after A5 ⟨S7.fs, S7.sto⟩
                have r5 : Reps (xg X) F5 ρ5 acc xs := r2.mono (A4.ff.trans A5.ff) ⟨l4 ++ l5, by rw [hl5, hl4, List.append_assoc]⟩
                match r, R5, P5 with
                | .ow c, _, P5 => exact P5.elim
                | .vw j, _, P5 => exact P5.elim
                | .fz d, R5, P5 =>
                  dsimp only at P5
                  by_cases hl : acc.length < LIM
                  · rw [if_pos hl] at P5
                    refine ⟨xs, hL5, by rw [← r5.length, lim_eq]; exact hl, ?_⟩
                    refine ⟨F5, ρ5, st5, acc ++ [d], xs ++ [y], ((A2.trans A4).trans A5).fill bL, ⟨l1 ++ l4 ++ l5, by rw [hl5, hl4, hl1]; simp⟩, S8.fill fL5 nL5 ns, fL5, nL5, upd_same, r5.append (.cons R5 .nil), ?_⟩
                    rw [hk2]
                    exact P5
                  · rw [if_neg hl] at P5; exact P5.elim
      · have : i = ds.length := by omega
        subst this
        rw [Nat.sub_self] at P2
        unfold bnd at P2
        rw [compC_0] at P2
        cases hc2 : cellL st2 n with
        | none => rw [hc2] at P2; exact P2.elim
        | some es =>
          rw [hc2] at P2
          dsimp only at P2
          by_cases hle : es.length ≤ ds.length
          · rw [if_pos hle] at P2
            obtain ⟨vs2, hl2, rr2⟩ := live_list S2 hra p2 hc2
            exact .inl ⟨⟨vs2, .of hl2, by rw [← rr2.length]; exact hle⟩, P2 (.ref L) ρ2 F2 H2 A2 S2 ⟨L, rfl, fL2, nL2, bL, xs, hL2, r2⟩⟩
          · rw [if_neg hle] at P2; exact P2.elim
  | .ow _, _, P1 => exact P1.elim
  | .vw _, _, P1 => exact P1.elim
  | .fz (.lst _), _, P1 => exact P1.elim
  | .fz (.rol _), _, P1 => exact P1.elim
  | .fz (.tup _), _, P1 => exact P1.elim
  | .fz (.str _), _, P1 => exact P1.elim
  | .fz .non, _, P1 => exact P1.elim
  | .fz (.bl _), _, P1 => exact P1.elim
  | .fz (.int _), _, P1 => exact P1.elim
  | .fz (.obj _ _), _, P1 => exact P1.elim
  | .fz (.dk _), _, P1 => exact P1.elim
  | .fz (.dt _), _, P1 => exact P1.elim
  | .fz (.ty _), _, P1 => exact P1.elim
  | .fz (.exc _ _), _, P1 => exact P1.elim
  | .fz (.tab _ _), _, P1 => exact P1.elim
theorem de_lcC (hi : DE C iter ga) (bk : blkC C.N C.sc scope own = true) (hg : DG (C.blk scope) tg t T) (ht : DTs (C.blk scope) ifs tt) (he : DE (C.blk scope) elt te) (hT : ∀ i ∈ T, i ∈ own.map (·.2) := by decide) (hs : ∀ (env : Env) x, foldedSetIterable iter env x = pure x := by intro _ _; rfl) (hh : C.hot = false := by rfl) :
    DE C (.ListComp elt [⟨tg, iter, ifs, 0⟩] scope pos) (gLcC ga (own.map (·.2)) t tt te) := fun X W ok tk => by
  refine peW (pe_lc (X := X) (own := own) (g := rdG (xg X) t T) (tt := rdT (xg X) W0 tt) (te := rdE (xg X) W0 (gFrz te)) (ok.calm hh) (by rw [ok.N]; exact ok.nd) (pi_list (de_frz hi X W ok tk)) (by rw [ok.N, ok.sc]; exact blkOk_by bk)
    (fun s H L cl fp => hg _ W0 (ok.blk scope s H L cl fp) takes0) (fun s H L cl fp => ht _ W0 (ok.blk scope s H L cl fp) takes0) (fun s H L cl fp => de_frz he _ W0 (ok.blk scope s H L cl fp) takes0) (hs _)) fun σ H Q h => lcC_rd hT h
end
/-! ### evaluated -/
section
variable {δ : DEnv} {st : Sto} {n : Nat} {X : Exn → Sto → Prop} {Q : Rv → Sto → Prop} {ga : DEnv → M Rv} {t : GT} {tt : DEnv → M Bool} {te : DEnv → M Rv}
def newM (st : Sto) (Q : Rv → Sto → Prop) : Rv → Prop
  | .ow c => Q (.fz (.loc st.length)) (st ++ [some c])
  | .fz d => Q (.fz d) st
  | _ => False
@[simp ↓] theorem newM_o {c : Con} : newM st Q (.ow c) = Q (.fz (.loc st.length)) (st ++ [some c]) := (rfl)
@[simp ↓] theorem newM_f {d : D} : newM st Q (.fz d) = Q (.fz d) st := (rfl)
@[simp ↓] theorem wp_cellM : wp (gCellM ga δ st) Q X = wp (ga δ st) (hold (q := ⟨fun r st1 => newM st1 Q r⟩)) X := by
  unfold gCellM
  rw [wp_bnd0]
  refine wp_cg fun r st1 => ?_
  cases r <;> rfl
def lcK (vs : List Nat) (t : GT) (tt : DEnv → M Bool) (te : DEnv → M Rv) (δ : DEnv) (st : Sto) (Q : Rv → Sto → Prop) (X : Exn → Sto → Prop) : Rv → Prop
  | .fz (.loc n) => optK (cellL st n) fun ds => wp (compC n t tt te (wipeD δ vs) ds.length 0 [] st) (fun acc st2 => Q (.ow (.lst acc)) st2) X
  | _ => False
@[simp ↓] theorem lcK_l {vs : List Nat} : lcK vs t tt te δ st Q X (.fz (.loc n)) = optK (cellL st n) (hold (q := ⟨fun ds => goK (wipeD δ vs) (hold (q := ⟨fun δ' => wp (compC n t tt te δ' ds.length 0 [] st) (hold (q := ⟨fun acc st2 => Q (.ow (.lst acc)) st2⟩)) X⟩))⟩)) := (rfl)
@[simp ↓] theorem wp_lcC {vs : List Nat} : wp (gLcC ga vs t tt te δ st) Q X = wp (ga δ st) (hold (q := ⟨fun r st1 => lcK vs t tt te δ st1 Q X r.frz⟩)) X := by
  unfold gLcC
  rw [wp_bnd0, wp_frz0]
  refine wp_cg fun r st1 => ?_
  simp only [hold_2]
  generalize r.frz = r
  cases r with
  | ow c => rfl
  | vw i => rfl
  | fz d =>
    cases d with
    | loc n =>
      show wp (match cellL st1 n with
        | some ds => bnd (compC n t tt te (wipeD δ vs) ds.length 0 []) (fun acc => ret (.ow (.lst acc))) st1
        | none => none) Q X = optK (cellL st1 n) _
      cases cellL st1 n with
      | none => rfl
      | some ds =>
        dsimp only [optK]
        rw [wp_bnd0]
        rfl
    | _ => rfl
/-- each item by itself, nothing changed -/
theorem wp_compC {β : Type} {enc : β → D} (f : β → D) (bs : List β) {Q : List D → Sto → Prop} (hl : bs.length ≤ LIM) (hc : cellL st n = some (bs.map enc))
    (hs : ∀ b ∈ bs, optK (t (enc b) δ) fun δ1 => wp (tt δ1 st) (fun c st1 => c = true ∧ st1 = st ∧ wp (te δ1 st) (fun r st2 => r.frz = .fz (f b) ∧ st2 = st) noX) noX) (he : Q (bs.map f) st) : wp (compC n t tt te δ bs.length 0 [] st) Q X := by
  have key : ∀ (post pre : List β), bs = pre ++ post → wp (compC n t tt te δ post.length pre.length (pre.map f) st) Q X := fun post => by
    induction post with
    | nil =>
      intro pre e
      rw [List.append_nil] at e
      subst e
      rw [List.length_nil, compC_0, hc]
      dsimp only
      rw [if_pos (by simp)]
      exact he
    | cons b post ih =>
      intro pre e
      have hb : b ∈ bs := by rw [e]; simp
      have h1 := hs b hb
      have e2 : (bs.map enc)[pre.length]? = some (enc b) := by rw [e]; simp
      rw [List.length_cons, compC_s, hc, Option.bind_some, e2]
      dsimp only
      cases q : t (enc b) δ with
      | none => rw [q] at h1; exact h1.elim
      | some δ1 =>
        rw [q] at h1
        dsimp only
        obtain ⟨c, st1, e3, rfl, rfl, q3⟩ := wp_of (show wp (tt δ1 st) _ noX from h1)
        rw [bnd_ok (show noEx (tt δ1) st1 = some (.ok true, st1) by unfold noEx; rw [e3])]
        obtain ⟨r, st2, e4, e5, rfl⟩ := wp_of q3
        rw [if_pos rfl, bnd_ok (show noEx (gFrz te δ1) st2 = some (.ok r.frz, st2) by unfold noEx gFrz; rw [bnd_ok e4]; rfl), e5]
        dsimp only
        have hlen : pre.length < LIM := by
          have : bs.length = pre.length + (post.length + 1) := by rw [e]; simp
          omega
        rw [if_pos (by rw [List.length_map]; exact hlen)]
        have := ih (pre ++ [b]) (by rw [e]; simp)
        simpa using this
  exact key bs [] rfl
end
end DL

/-! DL42: methods without arguments, and others, of a list in a cell. -/
namespace DL
open PySem PySem.Spec PyProof.Rows L2 TL
set_option autoImplicit false
def sMutC0 (ga : DEnv → M Rv) (f : List D → List D → Option (List D)) : GS := fun δ => sBnd (ga δ) δ fun r => match r with
  | .fz (.loc n) => fun st => match cellL st n with
    | some ds => (match f ds [] with
      | some ds' => some (.nx δ, st.set n (some (.lst ds')))
      | none => none)
    | none => none
  | _ => fun _ => none
section
variable {C : Ctx} {o : Expr} {ga : DEnv → M Rv} {e e2 : Expr} {gs : DEnv → M (List Rv)} {apos p1 pos : Pos}
theorem ds_mutC0 {m : Str} {id : String} {f : List D → List D → Option (List D)} {r : V → List V → Hp → VK → Prop} (slot : Slot "list" m id) (hty : typeOf (.builtin id) = pure (.type "method_descriptor")) (hm : ∀ X, CtxOk C X → MtR X id r) (mu : MutL r f)
    (ho : DE C o ga) (hsup : noSup o = true := by rfl) (hline : (apos.endLine == p1.line) = true := by rfl) :
    DS C (.Expr (.Call (.Attribute o m apos) [] [] p1) pos) (sMutC0 ga f) := fun X W ok tk => by
  refine psW (ps_expr (pe_bm0 PySem.F.plainAttrs_list slot hty (hm X ok) (ho X W ok tk) (base_ok hsup) hline) rfl) fun D σ H ⟨E, F, ρ, δ, st, A, S, P⟩ => ?_
  unfold sMutC0 at P
  refine ⟨E.H0, F, ρ, δ, st, S, PostS_bnd A P fun F1 ρ1 st1 H1 v x A1 A1' S1 R1 P1 => ?_⟩
  match x, R1, P1 with
  | .fz (.loc n), R1, P1 =>
    dsimp only at P1
    cases q0 : cellL st1 n with
    | none => rw [q0] at P1; exact P1.elim
    | some ds0 =>
      rw [q0] at P1
      dsimp only at P1
      obtain ⟨a0, j1, j2, xs0, j3, j4⟩ := S1.sto.live n _ (cellL_eq q0)
      cases R1 with
      | loc k5 =>
        rw [j1] at k5; cases k5
        cases q4 : f ds0 [] with
        | none => rw [q4] at P1; exact P1.elim
        | some ds' =>
          rw [q4] at P1
          refine ⟨.inl ⟨rfl, xs0, .of j3⟩, ?_⟩
          refine mu _ F1 ρ1 ds0 [] ds' xs0 [] a0 H1 _ S1.fs j3 j4 .nil q4 fun ys ry => ?_
          obtain ⟨A3, S3⟩ := cell_upd (c' := .lst ds') (o := .lst ys) A1' S1 j1 j2 ⟨_, upd_same, ry⟩
          exact P1 σ ρ1 F1 _ A3 S3
  | .ow _, _, P1 => exact P1.elim
  | .vw _, _, P1 => exact P1.elim
  | .fz .non, _, P1 => exact P1.elim
  | .fz (.bl _), _, P1 => exact P1.elim
  | .fz (.int _), _, P1 => exact P1.elim
  | .fz (.str _), _, P1 => exact P1.elim
  | .fz (.tup _), _, P1 => exact P1.elim
  | .fz (.lst _), _, P1 => exact P1.elim
  | .fz (.rol _), _, P1 => exact P1.elim
  | .fz (.obj _ _), _, P1 => exact P1.elim
  | .fz (.dk _), _, P1 => exact P1.elim
  | .fz (.dt _), _, P1 => exact P1.elim
  | .fz (.ty _), _, P1 => exact P1.elim
  | .fz (.exc _ _), _, P1 => exact P1.elim
  | .fz (.tab _ _), _, P1 => exact P1.elim
theorem ds_clearC (ho : DE C o ga) (hsup : noSup o = true := by rfl) (hline : (apos.endLine == p1.line) = true := by rfl) :
    DS C (.Expr (.Call (.Attribute o "clear" apos) [] [] p1) pos) (sMutC0 ga fClear) :=
  ds_mutC0 PySem.F.slot_list_clear PySem.F.type_list_clear (fun X ok => mt_clear) mu_clear ho hsup hline
theorem ds_reverseC (ho : DE C o ga) (hsup : noSup o = true := by rfl) (hline : (apos.endLine == p1.line) = true := by rfl) :
    DS C (.Expr (.Call (.Attribute o "reverse" apos) [] [] p1) pos) (sMutC0 ga fReverse) :=
  ds_mutC0 PySem.F.slot_list_reverse PySem.F.type_list_reverse (fun X ok => mt_reverse) mu_reverse ho hsup hline
theorem ds_extendC (ho : DE C o ga) (ha : DA C [e] gs) (hsup : noSup o = true := by rfl) (hs : [e].all noStar = true := by rfl) (hline : (apos.endLine == p1.line) = true := by rfl) :
    DS C (.Expr (.Call (.Attribute o "extend" apos) [e] [] p1) pos) (sMutC ga gs fExtend) :=
  ds_mutC PySem.F.slot_list_extend PySem.F.type_list_extend (fun X ok => mt_extend) mu_extend ho ha hsup hs rfl hline
theorem ds_insertC (ho : DE C o ga) (ha : DA C [e, e2] gs) (hsup : noSup o = true := by rfl) (hs : [e, e2].all noStar = true := by rfl) (hline : (apos.endLine == p1.line) = true := by rfl) :
    DS C (.Expr (.Call (.Attribute o "insert" apos) [e, e2] [] p1) pos) (sMutC ga gs fInsert) :=
  ds_mutC PySem.F.slot_list_insert PySem.F.type_list_insert (fun X ok => mt_insert) mu_insert ho ha hsup hs rfl hline
end
section
variable {δ : DEnv} {st : Sto} {ga : DEnv → M Rv} {f : List D → List D → Option (List D)} {R : Fl → Sto → Prop}
@[simp ↓] theorem wpS_mutC0 : wpS (sMutC0 ga f δ st) R = wp (ga δ st) (hold (q := ⟨fun r st1 => mutK (hold (q := ⟨fun n => optK (cellL st1 n) (hold (q := ⟨fun ds => optK (f ds []) (hold (q := ⟨fun ds' => R (.nx δ) (st1.set n (some (.lst ds')))⟩))⟩))⟩)) r⟩)) (hold (q := ⟨fun x st => R (.ex x δ) st⟩)) := by
  unfold sMutC0
  rw [wpS_bnd0]
  refine wp_cg fun r st1 => ?_
  simp only [hold_1, hold_2]
  cases r with
  | ow c => rfl
  | vw i => rfl
  | fz d =>
    cases d with
    | loc n =>
      show wpS (match cellL st1 n with
        | some ds => (match f ds [] with
          | some ds' => some (.nx δ, st1.set n (some (.lst ds')))
          | none => none)
        | none => none) R = optK (cellL st1 n) _
      cases cellL st1 n with
      | none => rfl
      | some ds =>
        dsimp only [optK]
        simp only [hold_1]
        cases f ds [] <;> rfl
    | _ => rfl
@[simp] theorem fClear_0 {ds : List D} : fClear ds [] = some [] := (rfl)
end
end DL

/-! DL43: x(lambda a=0: e) where x asks within try: a lambda with one parameter that has a default. -/
namespace DL
open PySem PySem.Spec PyProof.Rows L2 TL
set_option autoImplicit false
/-- a lambda's data, dv its defaults -/
def lfn (nm ql : Str) (pa : Arguments) (bo : Expr) (sc : Scope) (cs : List (Str × Addr)) (dv pm cd ct : Value) : FuncData :=
  { name := nm, qualname := ql, params := pa, body := .expr bo, scope := sc, globals := mainGlobals, closure := cs, defaults := dv, kwdefaults := .none, doc := .none, pyModule := pm, annotations := none, code := cd, closureTuple := ct, builtins := builtinsNs }
def lob (nm ql : Str) (pa : Arguments) (bo : Expr) (sc : Scope) (cs : List (Str × Addr)) (dv pm cd ct : Value) : Obj :=
  { cls := .type "function", data := .func (lfn nm ql pa bo sc cs dv pm cd ct) }
section
variable {M : Model} {A : Around} {E : Value → Shared → Prop} {s : Shared} {nm ql : Str} {pa : Arguments} {bo : Expr} {sc : Scope} {env : Env} {c P : Addr} {ps : Array Value} {pos : Pos} {fl : Nat} {mg : Str → Option Value}
  {cs : List (Str × Addr)} {Q : Value → Shared → Prop} {dv : Value}
/-- the code object is new -/
theorem tail_new (h1 : closureFor sc env = pure cs) (h2 : env.globals = mainGlobals) (h3 : s.heap.Ns mainGlobals mg) (h4 : env.code = .ref c) (h5 : PySem.W.CodeHd s.heap c P) (h6 : s.heap.get? P = some { cls := .none, data := .fields ps }) (h7 : TriplesOk ps.toList)
    (h8 : codeAmong pos ps.toList = none) (h9 : mainGlobals ≠ P) (h10 : s.heap.BuiltinsAt mg P)
    (k : ∀ c' ct g tk, Heap.ExtBut P s.heap g → s.heap.objs.size ≤ c' → c' < g.objs.size → g.CodeRec (.ref c') ql → g.get? P = some { cls := .none, data := .fields (ps ++ #[rawInt pos.line, rawInt pos.col, .ref c']) } →
      Q (.ref g.objs.size) { s with heap := g.push (lob nm ql pa bo sc cs dv ((mg "__name__").getD .none) (.ref c') ct), toks := tk }) :
    wpAny M A (makeTail nm ql pa (.expr bo) sc env dv .none none pos fl) Q E s := by
  obtain ⟨bm, ob, b1, b2, _, b3, b4, b5, b6, b7⟩ := h10
  unfold makeTail
  rw [h1, h2]
  apply wpAny_bind
  apply wpAny_pure
  by_cases e : cs = []
  · subst e
    apply wpAny_bind
    apply wpAny_pure
    apply wpAny_bind
    refine wpAny_functionCodeX h4 (h5.code h6 h7) (h5.tab h6) h8 fun c' g tk x l1 l2 _ r t _ => ?_
    have n := h3.extBut x h9
    apply wpAny_bind
    refine wpAny_builtinsFor n b1 b2 (x _ _ b3 b4) b5 b6 b7 ?_
    apply wpAny_bind
    refine wpAny_nsGet n ?_
    apply wpAny_bind
    apply wpAny_pure
    exact wpAny_newObj_type (k c' .none g tk x l1 l2 r t.2) (by size_fits)
  · have e2 : cs.isEmpty = false := by
      cases cs with
      | nil => exact absurd rfl e
      | cons _ _ => rfl
    rw [e2]
    apply wpAny_bind
    show wpAny M A (newTextTuple _) _ E s
    refine wpAny_newTextTuple ?_
    have up : ∀ o, ∀ b u, s.heap.get? b = some u → (s.heap.push o).get? b = some u := fun o b u q => Heap.get?_push_of_some _ q
    apply wpAny_bind
    refine wpAny_functionCodeX h4 ((h5.keeps (up _)).code (up _ _ _ h6) h7) ((h5.keeps (up _)).tab (up _ _ _ h6)) h8 fun c' g tk x l1 l2 _ r t _ => ?_
    have n := (h3.push _).extBut x h9
    have x2 : Heap.ExtBut P s.heap g := fun b u nb q => x b u nb (up _ _ _ q)
    apply wpAny_bind
    refine wpAny_builtinsFor n b1 b2 (x2 _ _ b3 b4) b5 b6 b7 ?_
    apply wpAny_bind
    refine wpAny_nsGet n ?_
    apply wpAny_bind
    apply wpAny_pure
    exact wpAny_newObj_type (k c' _ g tk x2 (Nat.le_trans (by rw [Heap.size_push]; omega) l1) l2 r t.2) (by size_fits)
/-- the table tells the code object -/
theorem tail_hit {cv : Value} (h1 : closureFor sc env = pure cs) (h2 : env.globals = mainGlobals) (h3 : s.heap.Ns mainGlobals mg) (h4 : env.code = .ref c) (h5 : PySem.W.CodeHd s.heap c P) (h6 : s.heap.get? P = some { cls := .none, data := .fields ps }) (h7 : TriplesOk ps.toList)
    (h8 : codeAmong pos ps.toList = some cv) (h10 : s.heap.BuiltinsAt mg P)
    (k : ∀ (ct : Value) (g : Heap) (tk : Tok), (∀ b o, s.heap.get? b = some o → g.get? b = some o) → s.heap.objs.size ≤ g.objs.size → Q (.ref g.objs.size) { s with heap := g.push (lob nm ql pa bo sc cs dv ((mg "__name__").getD .none) cv ct), toks := tk }) :
    wpAny M A (makeTail nm ql pa (.expr bo) sc env dv .none none pos fl) Q E s := by
  obtain ⟨bm, ob, b1, b2, _, b3, b4, b5, b6, b7⟩ := h10
  unfold makeTail
  rw [h1, h2]
  apply wpAny_bind
  apply wpAny_pure
  by_cases e : cs = []
  · subst e
    apply wpAny_bind
    apply wpAny_pure
    apply wpAny_bind
    refine wpAny_functionCode_hit h4 (h5.code h6 h7) h8 ?_
    apply wpAny_bind
    refine wpAny_builtinsFor h3 b1 b2 b4 b5 b6 b7 ?_
    apply wpAny_bind
    refine wpAny_nsGet h3 ?_
    apply wpAny_bind
    apply wpAny_pure
    exact wpAny_newObj_type (k .none s.heap s.toks (fun _ _ q => q) (Nat.le_refl _)) (by size_fits)
  · have e2 : cs.isEmpty = false := by
      cases cs with
      | nil => exact absurd rfl e
      | cons _ _ => rfl
    rw [e2]
    apply wpAny_bind
    show wpAny M A (newTextTuple _) _ E s
    refine wpAny_newTextTuple ?_
    have up : ∀ o, ∀ b u, s.heap.get? b = some u → (s.heap.push o).get? b = some u := fun o b u q => Heap.get?_push_of_some _ q
    apply wpAny_bind
    refine wpAny_functionCode_hit h4 ((h5.keeps (up _)).code (up _ _ _ h6) h7) h8 ?_
    apply wpAny_bind
    refine wpAny_builtinsFor (h3.push _) b1 b2 (up _ _ _ b4) b5 b6 b7 ?_
    apply wpAny_bind
    refine wpAny_nsGet (h3.push _) ?_
    apply wpAny_bind
    apply wpAny_pure
    exact wpAny_newObj_type (k _ _ s.toks (up _) (by rw [Heap.size_push]; omega)) (by size_fits)
end
/-- a lambda whose one parameter has a default is made -/
theorem lam3D {X : Cx} {pins : List (Addr × Obj)} {σ : L2.St} {H : Hp} {s : Shared} {c P : Addr} {ps : Array Value} {params : Arguments} {body : Expr} {scope : Scope} {pos pd : Pos} {i0 : Int} {j0 : Nat} {Q : Value → Shared → Prop}
    (I : L2.Inv X pins σ H s) (TB : LamX.TabB X.base X.mg c P) (hcode : X.env.code = .ref c) (hP : H P = some (.tbl ps)) (ht : TriplesOk ps.toList)
    (ha : ∀ (p : Pos) (cv : Value), codeAmong p ps.toList = some cv → ∃ b, cv = .ref b ∧ H b = some (LamX.CodeO b (X.env.qual ++ "<lambda>"))) (hdef : defaultsOf params X.env = ([eval (.Constant (.int i0) j0 pd) X.env], [])) (hkw : params.kwonlyargs = []) (hfree : ∀ y ∈ scope.names, y.2 = .free → ∃ b, X.env.cells.lookup y.1 = some b)
    (h : ∀ (f b T : Addr) (pm ctv dv : Value) (nn : Nat) (H1 : Hp) (s1 : Shared), L2.Inv X pins σ H1 s1 →
      (H1 = H ∨ ∃ ps1 : Array Value, H b = none ∧ TriplesOk ps1.toList ∧ (∀ (p : Pos) (cv : Value), codeAmong p ps1.toList = some cv → codeAmong p ps.toList = some cv ∨ cv = .ref b) ∧ H1 = upd (upd H P (.tbl ps1)) b (LamX.CodeO b (X.env.qual ++ "<lambda>"))) →
      s1.heap.get? f = some (lob "<lambda>" (X.env.qual ++ "<lambda>") params body scope (cloFrom X.env.cells scope.names []) (.ref T) pm (.ref b) ctv) → H1 f = none → f ∉ frs X.stack →
      s1.heap.get? T = some { cls := .type "tuple", data := .seq #[dv] } → H1 T = none → T ∉ frs X.stack → H1 b = some (LamX.CodeO b (X.env.qual ++ "<lambda>")) → Q (.ref f) s1) :
    wpAny (model X.prog X.w) X.A (eval (.Lambda params body scope pos) X.env) Q X.xe s := by
  rw [PySem.arm_eval_Lambda, hdef]
  show wpAny _ _ (do let dvs ← (do let v ← eval (.Constant (.int i0) j0 pd) X.env; return v :: (← holding [v] (evalAll []))); let kds ← holding dvs (evalAllOpt []); makeFunction "<lambda>" (X.env.qual ++ "<lambda>") params (.expr body) scope X.env dvs kds [] pos pos.line) _ _ s
  apply wpAny_bind
  apply wpAny_bind
  refine thn ((pe_int (X := X) (i := i0) (j := j0) (pos := pd)).run pins s σ H (fun v H1 => v = .int i0 ∧ H1 = H) I ⟨rfl, rfl⟩) fun dv s0 ⟨v, H0, I0, r0, q0⟩ => ?_
  obtain ⟨_, e0⟩ := q0
  subst e0
  apply wpAny_bind
  apply wpAny_holding
  apply wpAny_pure
  apply wpAny_pure
  apply wpAny_bind
  apply wpAny_holding
  apply wpAny_pure
  rw [makeFunction_eq, hkw]
  show wpAny _ _ (do let d ← newTextTuple [dv]; makeTail "<lambda>" (X.env.qual ++ "<lambda>") params (.expr body) scope X.env d .none none pos pos.line) _ _ s0
  apply wpAny_bind
  refine wpAny_newTextTuple ?_
  have nofr : ∀ f, s0.heap.objs.size ≤ f → f ∉ frs X.stack := fun f hf z =>
    (List.mem_cons.mp (I0.stkSub _ z)).elim (fun e => by
      have hlt := I0.lt
      rw [← e] at hlt
      exact absurd (Nat.lt_of_lt_of_le hlt hf) (Nat.lt_irrefl _)) (I0.nofs hf)
  have up : ∀ o, ∀ b u, s0.heap.get? b = some u → (s0.heap.push o).get? b = some u := fun o b u q => Heap.get?_push_of_some _ q
  have I1 : L2.Inv X pins σ H0 { s0 with heap := s0.heap.push { cls := .type "tuple", data := .seq [dv].toArray } } := I0.kept (t' := s0.toks) (up _)
  have hT : (s0.heap.push { cls := .type "tuple", data := .seq [dv].toArray }).get? s0.heap.objs.size = some { cls := .type "tuple", data := .seq #[dv] } := Heap.get?_push_size _ rfl
  have nT : H0 s0.heap.objs.size = none := I0.hok.fresh (Nat.le_refl _)
  have fT := nofr s0.heap.objs.size (Nat.le_refl _)
  have nTP : s0.heap.objs.size ≠ P := fun z => by rw [z, hP] at nT; cases nT
  generalize hs1 : { s0 with heap := s0.heap.push { cls := .type "tuple", data := .seq [dv].toArray } } = s1 at I1
  have hT1 : s1.heap.get? s0.heap.objs.size = some { cls := .type "tuple", data := .seq #[dv] } := by rw [← hs1]; exact hT
  have sz : s0.heap.objs.size < s1.heap.objs.size := by rw [← hs1]; show _ < (s0.heap.push _).objs.size; rw [Heap.size_push]; omega
  clear hs1 hT
  generalize s0.heap.objs.size = T at hT1 nT fT nTP sz
  have nofr1 : ∀ f, s1.heap.objs.size ≤ f → f ∉ frs X.stack := fun f hf z =>
    (List.mem_cons.mp (I1.stkSub _ z)).elim (fun e => by
      have hlt := I1.lt
      rw [← e] at hlt
      exact absurd (Nat.lt_of_lt_of_le hlt hf) (Nat.lt_irrefl _)) (I1.nofs hf)
  have bP := TB.bm.keeps I1.bk
  have hP2 : s1.heap.get? P = some { cls := .none, data := .fields ps } := I1.hok P _ hP
  cases hc : codeAmong pos ps.toList with
  | some cv =>
    obtain ⟨b, rfl, hb⟩ := ha pos cv hc
    refine tail_hit (mg := X.mg) (c := c) (P := P) (ps := ps) (closure_ok hfree) I1.ok.glob (I1.mod.glob.keeps I1.bk) hcode (TB.code.keeps I1.bk) hP2 ht hc bP fun ctv h2 tk hx hsz => ?_
    have I2 := I1.kept (t' := tk) (h' := h2.push (lob "<lambda>" (X.env.qual ++ "<lambda>") params body scope (cloFrom X.env.cells scope.names []) (.ref T) ((X.mg "__name__").getD .none) (.ref b) ctv)) fun b o e => Heap.get?_push_of_some _ (hx b o e)
    exact h h2.objs.size b T _ ctv dv 0 H0 _ I2 (.inl rfl) (Heap.get?_push_size _ rfl) (I1.hok.fresh hsz) (nofr1 _ hsz) (Heap.get?_push_of_some _ (hx _ _ hT1)) nT fT hb
  | none =>
    refine tail_new (mg := X.mg) (c := c) (P := P) (ps := ps) (closure_ok hfree) I1.ok.glob (I1.mod.glob.keeps I1.bk) hcode (TB.code.keeps I1.bk) hP2 ht hc TB.gP bP fun b ctv h2 tk hx hge hlt hrec htb => ?_
    obtain ⟨b2, oc, vs, t, e2, hoc, hd, hv⟩ := hrec
    cases e2
    have hsz : s1.heap.objs.size ≤ h2.objs.size := Nat.le_of_lt (Nat.lt_of_le_of_lt hge hlt)
    have nB : H0 b = none := I1.hok.fresh hge
    have eL : (ps ++ #[rawInt pos.line, rawInt pos.col, .ref b]).toList = ps.toList ++ [rawInt pos.line, rawInt pos.col, .ref b] := by simp
    have I2 := LamX.inv_table (t' := tk) (more := #[rawInt pos.line, rawInt pos.col, .ref b]) (q := X.env.qual ++ "<lambda>") (h' := h2.push (lob "<lambda>" (X.env.qual ++ "<lambda>") params body scope (cloFrom X.env.cells scope.names []) (.ref T) ((X.mg "__name__").getD .none) (.ref b) ctv)) I1 hP
      (fun a o hb e => Heap.get?_push_of_some _ (hx a o hb e)) (Heap.get?_push_of_some _ htb) hge ⟨oc, vs, t, Heap.get?_push_of_some _ hoc, hd, hv⟩
    have nTb : T ≠ b := fun z => by rw [z] at sz; omega
    refine h h2.objs.size b T _ ctv dv 0 _ _ I2 (.inr ⟨_, nB, by rw [eL]; exact PySem.TriplesOk_snoc _ _ _ _ ht, fun p cv hcv => ?_, rfl⟩) (Heap.get?_push_size _ rfl) ?_ (nofr1 _ hsz) (Heap.get?_push_of_some _ (hx _ _ nTP hT1)) (by rw [upd_ne nTb, upd_ne nTP]; exact nT) fT upd_same
    · rw [eL] at hcv
      exact LamX.among_app _ ht hcv
    · rw [upd_ne (Nat.ne_of_gt hlt), upd_ne (Nat.ne_of_gt (Nat.lt_of_lt_of_le (Heap.lt_size hP2) hsz))]
      exact I1.hok.fresh hsz
end DL

/-! DL44: the lambda with a default, asked. -/
namespace DL
open PySem PySem.Spec PyProof.Rows L2 TL
set_option autoImplicit false
/-- one parameter a, no other name of its own -/
structure LamP (a : Str) (up scope : Scope) : Prop where
  fn : scope.kind = .function
  nco : scope.isCoroutine = false
  ngen : scope.isGenerator = false
  nocell : ∀ y ∈ scope.names, y.2 ≠ .cell
  one : ∀ y ∈ scope.names, y.2 = .local → y.1 = a
  loc : scope.names.lookup a = some .local
  fre : ∀ y ∈ scope.names, y.2 = .free → up.names.lookup y.1 = some .cell ∨ up.names.lookup y.1 = some .free
def lamPB (a : Str) (up scope : Scope) : Bool :=
  decide (scope.kind = .function) && (!scope.isCoroutine && (!scope.isGenerator && (decide (scope.names.lookup a = some .local) && scope.names.all fun y => !decide (y.2 = .cell) && ((!decide (y.2 = .local) || decide (y.1 = a)) && (!decide (y.2 = .free) || (decide (up.names.lookup y.1 = some .cell) || decide (up.names.lookup y.1 = some .free)))))))
theorem lamP_by {a : Str} {up scope : Scope} (h : lamPB a up scope = true) : LamP a up scope := by
  unfold lamPB at h
  simp only [Bool.and_eq_true, Bool.or_eq_true, Bool.not_eq_true', decide_eq_true_eq, decide_eq_false_iff_not, List.all_eq_true] at h
  obtain ⟨p1, p2, p3, p4, p5⟩ := h
  exact ⟨p1, p2, p3, fun y hy => (p5 y hy).1, fun y hy e => (p5 y hy).2.1.resolve_left fun z => z e, p4, fun y hy e => (p5 y hy).2.2.resolve_left fun z => z e⟩
theorem LamP.got {a : Str} {X : Cx} {scope : Scope} (L : LamP a X.env.scope scope) (ok : X.Ok) (y : Str × NameKind) (hy : y ∈ scope.names) (e : y.2 = .free) : ∃ c, X.env.cells.lookup y.1 = some c :=
  (L.fre y hy e).elim (fun k => ok.has _ (.inl k)) fun k => ok.has _ (.inr k)
section
variable {X : Cx} {pins : List (Addr × Obj)} {σ : L2.St} {H HZ : Hp} {s s1 : Shared} {a : Str}
theorem lamP_start {A : Around} {outer : List Env} {E : XK} {scope : Scope} {f c' : Addr} {h₁ : Heap} {tk : Nat} {m1 : Str → Option Value} (I : L2.Inv X pins σ H s) (L : LamP a X.env.scope scope) (na : a ∉ X.N) (e0 : Env0 X.prog X.w X.K X.mg X.base A outer s1 HZ) (hd : A.handled = none)
    (un : Un (frs X.stack) [] H HZ s.heap s1.heap) (hns : h₁.Ns s1.heap.objs.size m1) (kp : ∀ b o, s1.heap.get? b = some o → h₁.get? b = some o) :
    L2.Inv (LamX.lamCx X A outer s1 HZ E scope f c') [] σ HZ { s1 with heap := h₁, toks := tk } := by
  have got := L.got I.ok
  have inC : ∀ {y : Str} {b : Addr}, (cloFrom X.env.cells scope.names []).lookup y = some b → X.env.cells.lookup y = some b := fun {y b} q => by
    rcases cloFrom_mem (PySem.mem_of_lookup q) with z | ⟨z1, z2⟩
    · exact nomatch z
    · obtain ⟨b1, g1⟩ := got _ z1 rfl
      have g1 : X.env.cells.lookup y = some b1 := g1
      rw [g1, z2, show X.env.cells.lookup y = some b1 from g1] <;> rfl
  have toC : ∀ {y : Str}, scope.names.lookup y = some .free → ∃ b, (cloFrom X.env.cells scope.names []).lookup y = some b := fun {y} q =>
    mem_lookup (cloFrom_has (cells := X.env.cells) (acc := []) (show (y, NameKind.free) ∈ scope.names from PySem.mem_of_lookup q))
  have cellK : ∀ {b : Addr} {v : Option Value}, H b = none → s.heap.IsCell b v → h₁.IsCell b v := fun {b v} n ⟨o, o1, o2⟩ => by
    obtain ⟨sl, q⟩ := un.any o1 n (by simp)
    exact ⟨_, kp _ _ q, o2⟩
  have nex : ∀ b : Addr, b ∉ (LamX.lamCx X A outer s1 HZ E scope f c').ex := fun b z => nomatch (show b ∈ ([] : List Addr) from z)
  refine { ok := ⟨e0.mod, L.fn, rfl, rfl, Nat.le_refl _, fun y z b q1 q2 => I.ok.inj y z b (inC q1) (inC q2), fun y hy => ?h1, fun y b z _ => ?h2, fun _ => hd, Around.frames_deeper e0.frames, .inr ⟨rfl, rfl⟩, fun b z => absurd z (nex b), e0.bs, e0.bsz, fun b _ _ => nex b, fun b z => absurd z (nex b), e0.funs, e0.frf⟩, os := rfl, bare := e0.bare, base := Un.kept kp, loc := ⟨_, hns, fun i y v q1 q2 q3 => ?h3⟩, cell := fun y b q => ?h4, free := e0.hok.fresh (Nat.le_refl _), freeC := fun y b q => ?h5, pin := fun q hq => (nomatch (show q ∈ ([] : List (Addr × Obj)) ++ [] from hq)), hok := e0.hok.kept kp, len := I.len }
  case h1 =>
    have hy : scope.names.lookup y = some .cell ∨ scope.names.lookup y = some .free := hy
    exact hy.elim (fun z => absurd rfl (L.nocell _ (PySem.mem_of_lookup z))) toC
  case h2 => exact nomatch (show false = true from z)
  case h3 =>
    have q3 : Vis scope y := q3
    rcases q3 with k | k | k
    · have := L.one _ (PySem.mem_of_lookup k) rfl
      have : y = a := this
      subst this
      exact absurd (List.mem_of_getElem? q1) na
    · exact absurd rfl (L.nocell _ (PySem.mem_of_lookup k))
    · have k2 := L.fre _ (PySem.mem_of_lookup k) rfl
      obtain ⟨m, _, hl⟩ := I.loc
      obtain ⟨u, r, q⟩ := hl i y v q1 q2 (k2.elim (fun z => .inr (.inl z)) fun z => .inr (.inr z))
      obtain ⟨b2, g2⟩ := toC k
      refine ⟨u, r, .inr ⟨.inr k, b2, g2, ?_⟩⟩
      have g3 := inC g2
      rcases q with ⟨k4, _⟩ | ⟨_, b3, g4, z⟩
      · have k4 : X.env.scope.names.lookup y = some .local := k4
        rcases k2 with k5 | k5
        · exact nomatch k4.symm.trans (show X.env.scope.names.lookup y = some .cell from k5)
        · exact nomatch k4.symm.trans (show X.env.scope.names.lookup y = some .free from k5)
      · cases g3.symm.trans g4
        exact cellK (I.freeC y _ g3) z
  case h4 =>
    obtain ⟨u, z⟩ := I.cell y b (inC q)
    exact ⟨u, cellK (I.freeC y b (inC q)) z⟩
  case h5 =>
    obtain ⟨v, o, o1, o2⟩ := I.cell y b (inC q)
    exact un.free b o o1 (I.freeC y b (inC q)) (by simp)
/-- x(), in the def that got the lambda -/
theorem pe_actP {CXg : CXT} {Eg : XK} {Ng : List Str} {qg : Str} {sg : Scope} {g f c' T : Addr} {cdg pm ctv dv : Value} {params : Arguments} {body : Expr} {scope : Scope} {k i : Nat} {x : Str} {pn : List (Addr × Obj)} {xe : Value → Shared → Prop} {W : WX} {E : XK} {tb : TE} {p1 p2 : Pos}
    (I : L2.Inv X pins σ H s) (L : LamP a X.env.scope scope) (na : a ∉ X.N) (hf : s.heap.get? f = some (lob "<lambda>" (X.env.qual ++ "<lambda>") params body scope (cloFrom X.env.cells scope.names []) (.ref T) pm (.ref c') ctv)) (hfn : H f = none) (hfr : f ∉ frs X.stack)
    (hT : s.heap.get? T = some { cls := .type "tuple", data := .seq #[dv] }) (hTn : H T = none) (hTr : T ∉ frs X.stack)
    (hbind : ∀ (ql : Str) (cs : List (Str × Addr)) (T : Addr) (pm cd ct u : Value), ∃ k, bindArgs (lfn "<lambda>" ql params body scope cs (.ref T) pm cd ct) ⟨[], []⟩ = seqItems? (.ref T) >>= k ∧ k (some #[u]) = pure [(a, u)])
    (tk : Takes ((cxOf CXg X.prog X.w X.K X.mg X.base Ng qg sg g cdg X.A X.stack s H Eg).tr pn xe) W) (hW : ∀ cls d σ' H', E cls d H' → W cls d σ' H') (hr : Room (k + 1) (X.A.deeper (envOfC qg sg s.heap.objs.size g cdg)))
    (hbody : ∀ (A : Around) (outer : List Env) (s : Shared) (H : Hp), Room k (A.deeper (LamX.lamEnv X scope s.heap.objs.size f c')) → PE (LamX.lamCx X A outer s H E scope f c') body tb)
    (hN : Ng[i]? = some x) (hv : Vis sg x) (hd : (x == ("__debug__" : Str)) = false := by decide) (hcd : (x == ("__classdict__" : Str)) = false := by decide) :
    PE ((cxOf CXg X.prog X.w X.K X.mg X.base Ng qg sg g cdg X.A X.stack s H Eg).tr pn xe) (.Call (.Name x p1) [] [] p2)
      (fun σZ HZ Q => σZ[i]? = some (some (.ref f)) ∧ HZ c' = some (LamX.CodeO c' (X.env.qual ++ "<lambda>")) ∧ tb σ HZ Q) := by
  refine ⟨fun pinsZ sZ σZ HZ Q IZ ⟨g1, g2, g3⟩ => ?_⟩
  refine wpAny_Call_Name_kw (thn ((pe_var (pos := p1) (i := i) hN hv hd hcd).run pinsZ sZ σZ HZ (fun v H1 => v = .ref f ∧ H1 = HZ) IZ ⟨.ref f, g1, rfl, rfl⟩) fun u s2 ⟨v, H1, I1, r1, q1, q2⟩ => ?_)
  subst q1
  subst q2
  obtain rfl : u = Value.ref f := r1
  have nil : ∀ b : Addr, b ∉ ([] : List Addr) := fun b z => nomatch z
  have of1 := I1.base.keep f _ hf hfn hfr (nil f)
  have oT1 := I1.base.keep T _ hT hTn hTr (nil T)
  refine PySem.W.callWith_F0 ⟨_, _, _, _, of1⟩ ?_
  have un : Un (frs X.stack) [] H H1 s.heap s2.heap := I1.base
  obtain ⟨⟨oc, vs, t, o1, o2, o3⟩, _, _⟩ := I1.hok c' _ g2
  have rc : codeAny (model X.prog X.w) (X.A.deeper (envOfC qg sg s.heap.objs.size g cdg)) (.call (.ref f) ⟨[], []⟩) (CR (L2.CX X.prog X.w) (envOfC qg sg s.heap.objs.size g cdg :: X.stack) X.prog X.w H1 s2 Q E) s2 := by
    refine PySem.W.kla_callFunE hr.depth of1 rfl L.nco L.ngen rfl ⟨c', oc, vs, t, rfl, o1, o2, o3⟩ ?_
    obtain ⟨kk, b1, b2⟩ := hbind (X.env.qual ++ "<lambda>") (cloFrom X.env.cells scope.names []) T pm (.ref c') ctv dv
    rw [b1]
    apply wpAny_bind
    refine wpAny_seqItems oT1 rfl ?_
    rw [b2]
    apply wpAny_pure
    refine wpAny_newFunctionEnv (fun y hy => L.nocell y hy) (fun y hy => ?_) (fun h₁ hns hsb => ⟨I1.nolimit.fresh _ hsb, ?_⟩) L.fn
    · obtain rfl : y = (a, dv) := by simpa using hy
      exact L.loc
    show codeAny _ _ (.expr body (LamX.lamEnv X scope s2.heap.objs.size f c')) _ _
    have kp : ∀ b o, s2.heap.get? b = some o → h₁.get? b = some o := fun b o e => hsb.extBut b o (Nat.ne_of_lt (Heap.lt_size e)) (Heap.get?_push_of_some _ e)
    have J := lamP_start (A := X.A.deeper (envOfC qg sg s.heap.objs.size g cdg)) (outer := envOfC qg sg s.heap.objs.size g cdg :: X.stack) (E := E) (f := f) (c' := c') (tk := s2.toks + ([(a, dv)] : List (Str × Value)).length) I L na I1.env0 hr.hd un hns kp
    refine PySem.W.kla_codeExpr (wpAny_mono ((hbody _ _ s2 H1 (hr.deeper _)).run [] _ _ H1 Q J g3) (fun v s' ⟨w', H', J', rv, q⟩ => ?_) fun e s' hq => hq)
    exact ⟨w', H', J'.os, J'.bare, J'.base, J'.hok, rv, q⟩
  have hx : Passes (L2.CX X.prog X.w) ((cxOf CXg X.prog X.w X.K X.mg X.base Ng qg sg g cdg X.A X.stack s H Eg).tr pn xe) E := passes_call tk hW
  refine wpAny_call (codeAny_mono rc fun r s' hq => ?_)
  match r, hq with
  | .error e, hq => exact hx pinsZ σZ H1 s2 e s' I1 hq
  | .ok (.ret u), hq => exact I1.after hq
  | .ok .next, hq => exact hq.elim
  | .ok .brk, hq => exact hq.elim
  | .ok .cont, hq => exact hq.elim
end
end DL

/-! DL45: x(lambda a=0: e) where x asks within try. -/
namespace DL
open PySem PySem.Spec PyProof.Rows L2 TL
set_option autoImplicit false
section
variable {C : Ctx} {x dn q : Str} {p lpos pos : Pos} {params : Arguments} {body : Expr} {scope : Scope} {tl : List Nat} {fs xh hs : List Str} {xs : List Kin} {gh : GS} {ge : DEnv → M Rv} {k kb n : Nat} {cell : Bool}
theorem de_toldP {a0 : Str} {i0 : Int} {j0 : Nat} {pd : Pos} (hT : Told C.P C.w C.K C.mg C.base k x tl fs xh xs hs gh) (le : k + 1 ≤ C.k) (le2 : kb + 2 ≤ C.k) (hme : C.me = some (dn, q)) (hg : Glo C x) (hl : lamPB a0 C.sc scope = true) (hd : ∀ env, defaultsOf params env = ([eval (.Constant (.int i0) j0 pd) env], [])) (hkw : params.kwonlyargs = []) (hna : a0 ∉ C.N)
    (hbind : ∀ (ql : Str) (cs : List (Str × Addr)) (T : Addr) (pm cd ct u : Value), ∃ k, bindArgs (lfn "<lambda>" ql params body scope cs (.ref T) pm cd ct) ⟨[], []⟩ = seqItems? (.ref T) >>= k ∧ k (some #[u]) = pure [(a0, u)]) (hb : DE (C.lam scope kb) body ge) (hh : C.hot = false := by rfl) (hdb : (x == ("__debug__" : Str)) = false := by decide) :
    DE C (.Call (.Name x p) [.Lambda params body scope lpos] [] pos) (gTold n dn q tl cell xs hs gh ge) := fun X W ok tk => by
  obtain ⟨stm, N, a, nm, z, j, kk, t, b₀, suite, p1, p2, p3, p4, p5, p6, p7, ⟨fa, fd, Fn, hm⟩, Sg, eN, hva, hln, d1, d2, etl, eb, hxs, hhx, hcs, hbd, hcl, hgh⟩ := hT.ex
  subst eN
  obtain ⟨c, P, m1, m2, m3, m4⟩ := ok.me dn q hme
  refine ⟨fun pins s σ H Q I h => ?_⟩
  obtain ⟨H0, F, ρ, δ, st, S, Po⟩ := h
  unfold gTold at Po
  split at Po
  rotate_left
  · exact Po.elim
  rename_i htab
  have hn := tabAt_eq htab
  obtain ⟨P2, hr, nPF, ⟨c2, tc⟩, ps, hP, hq⟩ := S.sto.live n _ hn
  have tc' : PySem.W.tabIn X.K dn = some (c2, P2) := tc
  rw [m1] at tc'
  cases tc'
  subst m4
  have L : LamP a0 X.env.scope scope := lamP_by (by rw [ok.sc]; exact hl)
  have hna2 : a0 ∉ X.N := by rw [ok.N]; exact hna
  have hrm := ok.room hh
  have hmX : X.mg x = some (.ref fa) := by rw [ok.mg]; exact hm
  refine wpAny_Call_Name_kw (ld_glob I (ok.glo hg) hmX ?_ hdb)
  refine PySem.W.callWith_K (h₀ := X.base) I.ok.mod.kin (by rw [ok.K]; exact Fn.kp) ?_ (by rfl) (by rfl)
  show wpAny _ _ (spliced ((false, eval (.Lambda params body scope lpos) X.env) :: backTo pos (starEach [] X.env))) _ _ s
  refine Calls.spliced_cons (lam3D I m3 m2 hP hq.1 (fun p cv hcv => ?_) (hd _) hkw (L.got I.ok) fun f b T pm ctv dv nn H1 s1 I1 hH hf hfn hfr hT1 hT2 hT3 hco => ?_)
  · obtain ⟨b, e1, e2⟩ := hq.2 p cv hcv
    exact ⟨b, e1, S.fs _ _ e2⟩
  refine Calls.spliced_nil ⟨I1.kIn, ?_⟩
  obtain ⟨F1, A1, S1⟩ : ∃ F1, After ρ F H ρ F1 H1 ∧ St0 (xg X) H0 F1 ρ δ st σ H1 := by
    rcases hH with e | ⟨ps1, nb, ht1, hc1, e⟩
    · subst e
      exact ⟨F, .refl, S⟩
    · subst e
      obtain ⟨a1, a2⟩ := tab_step S hn hr ⟨c, m1⟩ hP hq nb ht1 hc1
      exact ⟨_, a1, a2⟩
  have Po1 := Po.later A1
  have bnd := Fn.bindsN (ps := [a]) hbd
  obtain ⟨oc, od, dV, kV, doc, pm0, an, cdv, ct, osl, efd, lk, hcd, _, _⟩ := Fn.ex
  subst efd
  have rc : codeAny (model X.prog X.w) X.A (.call (.ref fa) ⟨[.ref f], []⟩) (CR C8.CX0 X.stack X.prog X.w H1 s1 Q C8.E0) s1 := by
    have hbnd := bnd s1 [.ref f] (by rw [← ok.K]; exact I1.kIn) rfl
    refine LamX.run_ofS (k := C.k - 1) (N := [a, nm]) (ps := [a]) (us := [.ref f]) (vs := [.ref f]) (by rw [ok.K]; exact lk) (by rw [ok.K]; exact hcd) Sg (hrm.mono (by omega)) I1.env0 hbnd (.cons rfl .nil) rfl fun hr2 => ?_
    rw [eb]
    have okS : ∀ (a2 : Addr) (pn : List (Addr × Obj)), CtxOk ⟨C.P, C.w, C.K, C.mg, C.base, [a, nm], defScope stm, k, fun _ => true, true, none⟩ ((cxOf C8.CX0 X.prog X.w X.K X.mg X.base [a, nm] x (defScope stm) fa cdv X.A X.stack s1 H1 C8.E0).nox.suite a2 pn) := fun a2 pn =>
      ⟨ok.prog, ok.w, ok.K, ok.mg, ok.base, rfl, rfl, (fun z => nomatch z), (fun z => nomatch z), (by have := hr2.dp; show (X.A.deeper (envOfC x (defScope stm) s1.heap.objs.size fa cdv)).depth + 3 * k + 5 < recursionLimit; omega), (by have := hr2.un; show (X.A.deeper (envOfC x (defScope stm) s1.heap.objs.size fa cdv)).units + 16 * k + 200 < cLine; omega), PassesOwn.never, Sg.nd, fun _ _ => rfl, fun _ _ z => nomatch z⟩
    obtain ⟨cs, hclS, hex⟩ := clt_all (fs := fs) (okS 0 []) hcl hhx hcs
    have hclZ : ClT (cxOf C8.CX0 X.prog X.w X.K X.mg X.base [a, nm] x (defScope stm) fa cdv X.A X.stack s1 H1 C8.E0).nox t cs := by
      cases hclS with
      | one h1 => exact .one h1
      | two h1 h2 => exact .two h1 h2
    refine ⟨_, (pss_one (ps_try_kin (X := (cxOf C8.CX0 X.prog X.w X.K X.mg X.base [a, nm] x (defScope stm) fa cdv X.A X.stack s1 H1 C8.E0).nox) (i := 1) (Wout := fun _ _ _ _ => False)
      (tb := fun W D σZ HZ => ∃ Ech : XK, (∀ cls d σ' H', Ech cls d H' → W cls d σ' H') ∧ σZ[0]? = some (some (.ref f)) ∧ HZ b = some (LamX.CodeO b (X.env.qual ++ "<lambda>")) ∧ rdE (xg X) (fun cls d _ H => Ech cls d H) ge σ HZ (fun v H2 => [V.str z, v].length ≤ sizeLine ∧ ∀ p, H2 p = none → D.rt (.ref p) (upd H2 p (.tup [V.str z, v]))))
      (ts := fun D σ H => σ.length = [a, nm].length → rdS (xg X) (fun _ _ _ _ => False) gh D σ H)
      rfl rfl rfl Sg.nd rfl hln hclZ takesF (fun W2 pn xe tk2 _ => ?_) (fun a2 pn => pss_len (hgh _ _ (okS a2 pn) takesF)))).nox, ?_⟩
    · refine ⟨fun pins2 s2 σ2 H2 D I2 h2 => ?_⟩
      obtain ⟨Ech, hW, h1, h2, h3⟩ := h2
      have hp := pe_actP (a := a0) (CXg := C8.CX0) (Eg := C8.E0) (Ng := [a, nm]) (qg := x) (sg := defScope stm) (g := fa) (cdg := cdv) (i := 0) (k := kb) (p1 := p2) (p2 := p3) (tb := rdE (xg X) (fun cls d _ H => Ech cls d H) ge) I1 L hna2 hf hfn hfr hT1 hT2 hT3 hbind tk2 hW (hr2.mono (by omega))
        (fun A outer s3 H3 hr3 => hb _ (fun cls d _ H => Ech cls d H) ⟨ok.prog, ok.w, ok.K, ok.mg, ok.base, ok.N, rfl, fun _ => rfl, fun _ => hr3, hr3.dp, hr3.un, passes_of rfl, ok.nd, (fun _ z => nomatch z), (fun _ _ z => nomatch z)⟩ (takes_of rfl rfl rfl (E := Ech) rfl)) rfl hva d1 d2
      exact (pss_one (ps_ret (pos := p5) (pe_tup (pa_cons pe_str (pa_cons hp pa_nil))))).run pins2 s2 σ2 H2 D I2 ⟨h1, h2, h3⟩
    · refine ⟨fun cls d H2 => ∃ y ρ2 F2 st2, After ρ F1 H1 ρ2 F2 H2 ∧ StoS (xg X) F2 ρ2 st2 H2 ∧ RepX (xg X) F2 ρ2 H2 y cls d ∧ PostE (xg X) W H0 F1 ρ δ σ H1 (toldX xs hs gh y st2) Q, fun cls d σ2 H2 hE => ?_, rfl, hco, H0, F1, ρ, δ, st, S1, ?_⟩
      · obtain ⟨y, ρ2, F2, st2, A2, S2, ⟨B, dx, fvs, g1, e1, e2, g2, g3, g4⟩, P2⟩ := hE
        subst e1
        subst e2
        unfold toldX at P2
        cases ek : kinOf xs hs y.cls with
        | none => rw [ek] at P2; exact P2.elim
        | some bb =>
          rw [ek] at P2
          cases bb with
          | false => exact P2.elim
          | true =>
            obtain ⟨kn, A, hkm, hkc, T, hbb⟩ := kin_ok hxs hhx ek
            have gl := T.gl
            have g1' : C.mg y.cls = some (.ref B) := by rw [← ok.mg]; exact g1
            rw [hkc, g1'] at gl
            cases gl
            refine ⟨true, by rw [hex kn _ T, ← hbb], fun _ => ⟨dx, rfl, fun a2 na hlen => ?_⟩, fun z => nomatch z⟩
            have e := ext_frz (o := ExZ (.ref B) dx a2) S2.1 na
            have hl2 : 1 < σ2.length := by rw [List.length_set] at hlen; rw [hlen]; simp
            have slotX : Rep (xg X) (upd F2 a2 (ExZ (.ref B) dx a2)) ρ2 (.exc y.cls y.fs) (.ref a2) :=
              .exc g1 upd_same (e.ff _ _ g2) g3 (g4.mono e.ff ⟨[], (List.append_nil ρ2).symm⟩)
            refine ⟨⟨_, _, ρ2, _, ρ2⟩, _, ρ2, [none, some (.fz (.exc y.cls y.fs))], st2, ⟨.refl, Same.refl _, ⟨[], (List.append_nil ρ2).symm⟩⟩, ⟨e.fs, hlen, fun i sv hi => ?_, fun i j b0 ci cj h1 _ _ _ => ?_, S2.2.ext e⟩, ?_⟩
            · match i, hi with
              | 0, hi => cases hi
              | 1, hi =>
                cases hi
                exact ⟨.ref a2, List.getElem?_set_self hl2, slotX⟩
              | i + 2, hi => cases hi
            · match i, h1 with
              | 0, h1 => cases h1
              | 1, h1 => cases h1
              | i + 2, h1 => cases h1
            · match eg : gh [none, some (.fz (.exc y.cls y.fs))] st2, P2 with
              | none, P2 => exact P2.elim
              | some (.nx _, _), P2 => exact P2.elim
              | some (.bk _, _), P2 => exact P2.elim
              | some (.ct _, _), P2 => exact P2.elim
              | some (.ex _ _, _), P2 => exact P2.elim
              | some (.rt (.ow _), _), P2 => exact P2.elim
              | some (.rt (.vw _), _), P2 => exact P2.elim
              | some (.rt (.fz dd), st3), P2 =>
                intro v ρ3 F3 H3 A3 S3 R3
                have A4 := (A2.trans e.after).trans A3.a
                exact P2 v ρ3 F3 H3 A4 (S1.after A4 S3) R3
      · have hz : [V.str z, V.non].length ≤ sizeLine := by
          rw [sizeLine_eq]
          exact (by decide : 2 ≤ 16777216)
        match eg : ge δ st, Po1 with
        | none, Po1 => exact Po1.elim
        | some (.ex y, st2), Po1 =>
          exact fun c d ρ2 F2 H2 A2 S2 R2 => ⟨y, ρ2, F2, st2, A2, ⟨S2.fs, S2.sto⟩, R2, Po1⟩
        | some (.ok r, st2), Po1 =>
          intro v ρ2 F2 H2 A2 S2 R2
          refine ⟨hz, fun p np => ?_⟩
          subst etl
          cases r with
          | vw i => exact Po1.elim
          | fz dd => exact new_tup (PostE.later Po1 A2) S2 (.cons (rep_str z) (.cons R2 .nil)) p np
          | ow cc =>
            change PostE _ _ _ _ _ _ _ _ (if cell = true then _ else _) _ at Po1
            cases cell with
            | true =>
              obtain ⟨ρ3, A3, S3, R3⟩ := cell_step S1 A2 S2 R2
              exact new_tup (PostE.later Po1 A3) S3 (.cons (rep_str z) (.cons R3 .nil)) p np
            | false =>
              obtain ⟨F3, _, A3, S3, R3⟩ := frz_new S1 A2 S2 R2
              exact new_tup (PostE.later Po1 A3) S3 (.cons (rep_str z) (.cons R3 .nil)) p np
  refine wpAny_call (codeAny_mono rc fun r s2 hq => ?_)
  cases r with
  | error e => exact (show False from hq).elim
  | ok fl =>
    cases fl with
    | ret u => exact I1.after hq
    | next => exact hq.elim
    | brk => exact hq.elim
    | cont => exact hq.elim
end
end DL

/-! DL46: divmod, str of an int, x //= y, f-strings, repr(x) by the class's own __repr__. -/
namespace DL
open PySem PySem.Spec PyProof.Rows L2 TL
set_option autoImplicit false
/-! ### divmod, str -/
def tDm (q r : Int) : List D := [.int q, .int r]
def kDivmod : KN := k2 fun _ x y => opt x.asI fun i => opt y.asI fun j => if 0 < j ∧ j < 1073741824 then ret (.fz (.tup (tDm (i / j) (i % j)))) else fail
theorem bt_divmod : bootBuiltins "divmod" = some (.builtin "divmod") := by decide +kernel
theorem ok_divmod {C : Ctx} : FnK C (.builtin "divmod") kDivmod := fnK2 fun X ok => ⟨_, call_divmod, fun W H0 F ρ δ st σ H Hs x y v u Q S R R' P => by
  obtain ⟨i, e1, P⟩ := opt_ok P
  obtain ⟨j, e2, P⟩ := opt_ok P
  split at P
  · rename_i h
    exact ⟨i, j, by rw [asI_v R e1, asI_v R' e2], h, fun p np => new_tup P S (.cons .int (.cons .int .nil)) p np⟩
  · exact P.elim⟩
/-- an int's text -/
def decS (i : Int) : List Nat := tl (toString i : Str)
def fitS (i : Int) : Bool := decide (i.natAbs.log2 < 1920)
def kStrI : KN := k1 fun _ x => opt x.asI fun i => if fitS i then rsv (decS i) else fail
theorem ok_strI {C : Ctx} : FnK C (.type "str") kStrI := fnK1 fun X ok => ⟨_, call_str_int, fun W H0 F ρ δ st σ H Hs x v Q S R P => by
  obtain ⟨i, e1, P⟩ := opt_ok P
  split at P
  · rename_i h
    exact ⟨i, by rw [asI_v R e1], of_decide_eq_true h, PostE.done0 P S (rep_str _)⟩
  · exact P.elim⟩
/-! ### f-strings -/
/-- {x}: a text or an int -/
def fmtD : Rv → Option (List Nat)
  | .fz (.str s) => if s.length ≤ LIM then some s else none
  | .fz (.int i) => if fitS i then some (decS i) else none
  | _ => none
def gFmt (ga : DEnv → M Rv) : DEnv → M Rv := fun δ => bnd (ga δ) fun r => opt (fmtD r) fun s => ret (.fz (.str s))
def gJs : List (DEnv → M Rv) → List Nat → DEnv → M Rv
  | [], acc => fun _ => ret (.fz (.str acc))
  | g :: gs, acc => fun δ => bnd (g δ) fun r => opt r.asS fun s => if acc.length + s.length ≤ LIM then gJs gs (acc ++ s) δ else fail
section
variable {C : Ctx} {e : Expr} {ga : DEnv → M Rv} {pos : Pos}
theorem de_fmt (ha : DE C e ga) : DE C (.FormattedValue e (-1) none pos) (gFmt ga) := fun X W ok tk => by
  refine peW (pe_fmt (ha X W ok tk)) fun σ H Q h => rdE_bnd h fun H0 F ρ δ st Hs H v r S R P => ?_
  obtain ⟨s, e1, P2⟩ := opt_ok P
  clear P
  match r, R, e1 with
  | .fz (.str t), R, e1 =>
    change (if t.length ≤ LIM then some t else none) = some s at e1
    split at e1
    · rename_i hl
      cases e1
      refine .inl ⟨⟨s.toArray⟩, Rep.str_v R, by rw [len_mk, lim_eq]; exact hl, PostE.done0 P2 S .str⟩
    · cases e1
  | .fz (.int i), R, e1 =>
    change (if fitS i then some (decS i) else none) = some s at e1
    split at e1
    · rename_i hl
      cases e1
      exact .inr ⟨i, Rep.int_v R, of_decide_eq_true hl, PostE.done0 P2 S (rep_str _)⟩
    · cases e1
inductive DJs (C : Ctx) : List Expr → List (DEnv → M Rv) → Prop where
  | nil : DJs C [] []
  | cons {e : Expr} {g : DEnv → M Rv} {es : List Expr} {gs : List (DEnv → M Rv)} (h : DE C e g) (r : DJs C es gs) : DJs C (e :: es) (g :: gs)
theorem DJs.pj {es : List Expr} {gs : List (DEnv → M Rv)} {X : Cx} {W : WX} (h : DJs C es gs) (ok : CtxOk C X) (tk : Takes X W) : PJ X es (gs.map (rdE (xg X) W)) := by
  induction h with
  | nil => exact .nil
  | cons h r ih => exact .cons (h X W ok tk) ih
theorem app_mk (a b : List Nat) : (⟨a.toArray⟩ : Str) ++ (⟨b.toArray⟩ : Str) = ⟨(a ++ b).toArray⟩ := by
  show Str.mk (a.toArray ++ b.toArray) = _
  simp
theorem js_rd {X : Cx} {W : WX} {σ : L2.St} {H0 : Hp} : ∀ (gs : List (DEnv → M Rv)) (acc : List Nat) {F : Hp} {ρ : List Addr} {δ : DEnv} {st : Sto} {H : Hp} {Q : VK}, St0 (xg X) H0 F ρ δ st σ H → PostE (xg X) W H0 F ρ δ σ H (gJs gs acc δ st) Q →
    tJs (gs.map (rdE (xg X) W)) ⟨acc.toArray⟩ σ H fun out H1 => Q (.str out) H1
  | [], acc, F, ρ, δ, st, H, Q, S, P => PostE.done0 P S .str
  | g :: gs, acc, F, ρ, δ, st, H, Q, S, P => by
    refine ⟨H0, F, ρ, δ, st, S, PostE_bnd P fun F1 ρ1 st1 H1 v r A1 S1 R1 P1 => ?_⟩
    obtain ⟨s, e1, P1⟩ := opt_ok P1
    split at P1
    · rename_i hl
      refine ⟨⟨s.toArray⟩, asS_v R1 e1, ?_, ?_⟩
      · rw [app_mk, len_mk, List.length_append, lim_eq]; exact hl
      · rw [app_mk]
        exact js_rd gs (acc ++ s) S1 P1
    · exact P1.elim
theorem de_joined {e1 e2 : Expr} {es : List Expr} {gs : List (DEnv → M Rv)} (h : DJs C (e1 :: e2 :: es) gs) : DE C (.JoinedStr (e1 :: e2 :: es) pos) (gJs gs []) := fun X W ok tk => by
  refine peW (pe_joined (h.pj ok tk)) fun σ H Q ⟨H0, F, ρ, δ, st, S, P⟩ => ?_
  exact js_rd (H0 := H0) gs [] S P
end
/-! ### x //= y -/
theorem ip_fdiv {C : Ctx} : IpK C .FloorDiv (kI fun i j => if 0 < j ∧ j < 1073741824 then riv (i / j) else fail) := fun X ok => ⟨_, iop_fdiv, kI_ok fun W H0 F ρ δ st σ H i j Q S P => by
  split at P
  · rename_i h
    exact ⟨i, j, rfl, rfl, h, pI S P⟩
  · exact P.elim⟩
/-! ### own __repr__ -/
section
variable {prog : Program} {w : World} {A : Around} {E : Value → Shared → Prop} {s : Shared} {K : PySem.W.Frag} {C a f : Addr} {ox : Obj} {od : Option Obj}
theorem repr_ownK {Q : Value → Shared → Prop} (X : K.In s.heap) (I : PySem.W.InstAt s.heap a ox C od) (hm : Meth K C "__repr__" f) (hu : A.in1.units < cLine)
    (h : wpAny (model prog w) A.in1 (call (.ref f) [.ref a]) (fun v s' => ∃ m u, v = .str m u ∧ Q (.str m u) s') E s) : wpAny (model prog w) A (call (.builtin "repr") [.ref a]) Q E s := by
  refine Calls.call_function_entry F.kind_repr F.plain_repr F.entry_repr (F.args_repr1 _) ?_
  unfold Builtin.«repr»
  apply wpAny_bind (m := oneArg "repr" _)
  apply wpAny_pure
  apply wpAny_bind
  refine wpAny_cRoomFor hu ?_
  apply wpAny_bind
  have sp : ∀ {R : Option Value → Shared → Prop}, R (some (.ref f)) s → wpAny (model prog w) A.in1 (specialOf (.ref a) "__repr__") R E s := fun {R} q => by
    unfold specialOf
    exact wpAny_bind (I.type.here ((PySem.W.looks_findIn X hm.at_).here q))
  refine sp ?_
  show wpAny _ _ (if (some (Value.ref f)).isNone = true then _ else _) _ _ _
  rw [if_neg (by simp)]
  apply wpAny_bind (m := callSpecialIfBound? (.ref a) (PySem.Str.ofString "__repr__") _)
  simp only [callSpecialIfBound?, bindSpecialIfBound?]
  apply wpAny_holding
  apply wpAny_bind
  apply wpAny_bind
  refine sp ?_
  have bd : ∀ {R : Value × List Value → Shared → Prop} {E2 : Value → Shared → Prop}, R (.ref f, [.ref a]) s → wpAny (model prog w) A.in1 (bindSpecial (.ref f) (.ref a)) R E2 s := fun {R E2} q =>
    (PySem.W.bind_fn X _ (beq_iff_eq.mp hm.fn)).here q
  apply wpAny_bind
  refine wpAny_askSetting (wpAny_ite ?_)
  have fin : ∀ {R : Option Value → Shared → Prop}, (∀ m u s', Q (.str m u) s' → R (some (.str m u)) s') → wpAny (model prog w) A.in1 (call (.ref f) ([.ref a] ++ []) >>= fun v => pure (some v)) R E s := fun {R} q => by
    apply wpAny_bind
    refine wpAny_mono h (fun r s' hr => ?_) fun _ _ y => y
    obtain ⟨m, u, rfl, hq⟩ := hr
    exact wpAny_pure (q m u s' hq)
  split
  · apply wpAny_bind
    refine bd (wpAny_pure ?_)
    refine fin fun m u s' q => ?_
    apply wpAny_bind
    refine wpAny_isInstance (typeIs_str _ _ _) isSubtype_str_str ?_
    exact wpAny_pure ⟨_, rfl, q⟩
  · apply wpAny_tryCatch
    apply wpAny_bind
    refine bd (wpAny_pure ?_)
    refine fin fun m u s' q => ?_
    apply wpAny_bind
    refine wpAny_isInstance (typeIs_str _ _ _) isSubtype_str_str ?_
    exact wpAny_pure ⟨_, rfl, q⟩
end
section
variable {X : Cx} {k : Nat} {fa Cc : Addr} {fd : FuncData} {ps : List Str} {sp : Sp}
theorem call_reprOwn (F : FnOk X.prog X.w X.K X.mg X.base (L2.CX X.prog X.w) k fa fd ps sp) (hr : Room (k + 1) X.A) (hu : X.A.in1.units < cLine) (hb : Binds X.K fd ps []) (hm : Meth X.K Cc "__repr__" fa) :
    CallR X (.builtin "repr") (fun xs H Q => ∃ a dx fs, xs = [.ref a] ∧ H a = some (.ins Cc dx fs) ∧ sp [.ref a] H (fun v H' => ∃ m : Str, v = .str m ∧ Q (.str m) H') (fun _ _ _ => False)) := by
  intro pins s σ H xs us Q I r ⟨a, dx, fs, e, ha, h⟩
  subst e
  obtain ⟨u, rfl, ru⟩ := vals1 r
  obtain rfl : u = Value.ref a := ru
  obtain ⟨mA, J, _⟩ := ins_get I.hok ha
  obtain ⟨od, J, _⟩ := J.look
  refine repr_ownK I.kIn J hm hu ?_
  have hl : ([Value.ref a] : List Value).length = ps.length := F.len _ _ _ _ h
  have b := hb s [Value.ref a] I.kIn (by rw [List.append_nil]; exact hl)
  rw [List.append_nil] at b
  have hx : PassesAt (L2.CX X.prog X.w) X σ (WE W0 σ) := passAt takes0 σ
  refine wpAny_call (codeAny_mono (F.run X.A.in1 X.stack s H ⟨[Value.ref a], []⟩ [Value.ref a] [.ref a] _ (WE W0 σ) hr.in1 I.env0.in1 b (.cons rfl .nil) h) fun r s' hq => ?_)
  match r, hq with
  | .error e, hq => exact hx pins H s e s' I hq
  | .ok (.ret u), hq =>
    obtain ⟨z, H', I', rz, m, rfl, q⟩ := I.after hq
    obtain ⟨t, rfl⟩ := rz
    exact ⟨m, t, rfl, .str m, H', I', ⟨t, rfl⟩, q⟩
  | .ok .next, hq => exact hq.elim
  | .ok .brk, hq => exact hq.elim
  | .ok .cont, hq => exact hq.elim
end
section
variable {C : Ctx} {c : Str} {F : List D → M Rv}
def FnRepr (C : Ctx) (c : Str) (f : List D → M Rv) : Prop :=
  ∃ (fa : Addr) (fd : FuncData) (ps : List Str) (j : Nat), (∀ A, C.mg c = some (.ref A) → Meth C.K A "__repr__" fa) ∧ Binds C.K fd ps [] ∧ j + 1 ≤ C.k ∧ FnOk C.P C.w C.K C.mg C.base (L2.CX C.P C.w) j fa fd ps (spD C.gg 1 f)
def reprK (r : Rv) : M Rv := match r with
  | .fz (.str s) => ret (.fz (.str s))
  | _ => fail
def kReprO (c : Str) (F : List D → M Rv) : KN := k1 fun δ x st => match x.selfD δ st c "__repr__" with
  | some d => bnd (noEx (F [d])) reprK st
  | none => none
theorem ok_reprO (hex : ∃ A, C.mg c = some (.ref A)) (hf : FnRepr C c F) (hh : C.hot = false := by rfl) : FnK C (.builtin "repr") (kReprO c F) := fnK1 fun X ok => by
  obtain ⟨fa, fd, ps, j, h1, h2, h3, h4⟩ := hf
  obtain ⟨A, hA⟩ := hex
  have hu : X.A.in1.units < cLine := by
    have := ok.unH
    show X.A.units + _ < cLine
    omega
  refine ⟨_, call_reprOwn (mk_cast (n := 0) ok h4) ((ok.room hh).mono h3) hu (by rw [ok.K]; exact h2) (by rw [ok.K]; exact h1 A hA), fun W H0 F0 ρ δ st σ H Hs x v Q S R P => ?_⟩
  cases q : x.selfD δ st c "__repr__" with
  | none => rw [q] at P; exact P.elim
  | some d =>
    rw [q] at P
    obtain ⟨rfl, a, C', dx, fvs, rfl, g1, g2, g3⟩ := selfD_v S R q
    have hC : C' = A := by
      have g1' : X.mg c = some (.ref C') := g1
      rw [ok.mg, hA] at g1'
      cases g1'; rfl
    subst hC
    refine ⟨a, dx, fvs, rfl, g2, F0, ρ, [d], st, ⟨S.fs, S.sto⟩, .cons R .nil, rfl, ?_⟩
    unfold bnd noEx at P
    dsimp only at P
    cases q2 : F [d] st with
    | none => simp only [q2] at P; exact P.elim
    | some o =>
      obtain ⟨o, st'⟩ := o
      simp only [q2] at P
      cases o with
      | ex y => exact P.elim
      | ok r =>
        intro v ρ' F' H' A' S' R'
        dsimp only at P
        match r, R', P with
        | .fz (.str m), R', P =>
          have e := Rep.str_v R'
          exact ⟨_, e, P _ ρ' F' H' A' (S.after A' S') .str⟩
        | .ow _, _, P => exact P.elim
        | .vw _, _, P => exact P.elim
        | .fz .non, _, P => exact P.elim
        | .fz (.bl _), _, P => exact P.elim
        | .fz (.int _), _, P => exact P.elim
        | .fz (.tup _), _, P => exact P.elim
        | .fz (.lst _), _, P => exact P.elim
        | .fz (.rol _), _, P => exact P.elim
        | .fz (.obj _ _), _, P => exact P.elim
        | .fz (.dk _), _, P => exact P.elim
        | .fz (.dt _), _, P => exact P.elim
        | .fz (.loc _), _, P => exact P.elim
        | .fz (.ty _), _, P => exact P.elim
        | .fz (.exc _ _), _, P => exact P.elim
        | .fz (.tab _ _), _, P => exact P.elim
end
theorem FnMX.repr {P : Program} {w : World} {K : PySem.W.Frag} {j : Nat} {c : Str} {F : List D → M Rv} {C : Ctx} (h : FnMX C.P C.w C.K C.mg C.base j c "__repr__" 0 F) (l : j + 1 ≤ C.k) : FnRepr C c F := by
  obtain ⟨fa, fd, ps, h1, h2, h3⟩ := h
  exact ⟨fa, fd, ps, j, h1, h2, l, h3⟩
/-! ### evaluated -/
section
variable {δ : DEnv} {st : Sto} {i j : Int} {x r : Rv} {c : Str} {F : List D → M Rv} {X : Exn → Sto → Prop} {Q : Rv → Sto → Prop} {ga : DEnv → M Rv} {gs : List (DEnv → M Rv)} {s t : List Nat}
@[simp ↓] theorem wp_divmod (h : 0 < j ∧ j < 1073741824) : wp (kDivmod δ [.fz (.int i), .fz (.int j)] st) Q X = Q (.fz (.tup [.int (i / j), .int (i % j)])) st := by
  show wp ((if 0 < j ∧ j < 1073741824 then ret (.fz (.tup (tDm (i / j) (i % j)))) else fail) st) Q X = _
  rw [if_pos h]
  rfl
@[simp ↓] theorem wp_strI (h : fitS i = true) : wp (kStrI δ [.fz (.int i)] st) Q X = Q (.fz (.str (decS i))) st := by
  show wp ((if fitS i then rsv (decS i) else fail) st) Q X = _
  rw [if_pos h]
  rfl
theorem fitS_of (h : i.natAbs < 2 ^ 64) : fitS i = true := by
  unfold fitS
  rw [decide_eq_true_eq]
  by_cases z : i.natAbs = 0
  · rw [z]; decide
  · have : i.natAbs.log2 < 64 := (Nat.log2_lt z).mpr h
    omega
@[simp ↓] theorem wp_fmt : wp (gFmt ga δ st) Q X = wp (ga δ st) (hold (q := ⟨fun r st1 => optK (fmtD r) (hold (q := ⟨fun s => Q (.fz (.str s)) st1⟩))⟩)) X := by
  unfold gFmt
  rw [wp_bnd0]
  refine wp_cg fun r st1 => ?_
  try simp only [hold_1, hold_2]
  rw [wp_opt0]
  rfl
@[simp] theorem fmtD_s (h : s.length ≤ 16777216) : fmtD (.fz (.str s)) = some s := by
  show (if s.length ≤ LIM then some s else none) = some s
  rw [if_pos (show s.length ≤ LIM from h)]
@[simp] theorem fmtD_i (h : fitS i = true) : fmtD (.fz (.int i)) = some (decS i) := by
  show (if fitS i then some (decS i) else none) = _
  rw [if_pos h]
@[simp ↓] theorem wp_js0 : wp (gJs [] s δ st) Q X = Q (.fz (.str s)) st := (rfl)
@[simp ↓] theorem wp_js1 : wp (gJs (ga :: gs) s δ st) Q X = wp (ga δ st) (hold (q := ⟨fun r st1 => optK r.asS (hold (q := ⟨fun t => guardK (s.length + t.length ≤ LIM) (hold (q := ⟨fun _ => wp (gJs gs (s ++ t) δ st1) Q X⟩))⟩))⟩)) X := by
  unfold gJs
  rw [wp_bnd0]
  refine wp_cg fun r st1 => ?_
  try simp only [hold_1, hold_2]
  rw [wp_opt0]
  refine optK_cg fun t => ?_
  exact wp_g
def reprOK (Q : Rv → Sto → Prop) (st : Sto) : Rv → Prop
  | .fz (.str s) => Q (.fz (.str s)) st
  | _ => False
@[simp ↓] theorem reprOK_s : reprOK Q st (.fz (.str s)) = Q (.fz (.str s)) st := (rfl)
@[simp ↓] theorem wp_reprO : wp (kReprO c F δ [x] st) Q X = optK (x.selfD δ st c "__repr__") (hold (q := ⟨fun d => wp (F [d] st) (hold (q := ⟨fun r st1 => reprOK Q st1 r⟩)) noX⟩)) := by
  show wp (match x.selfD δ st c "__repr__" with
    | some d => bnd (noEx (F [d])) reprK st
    | none => none) Q X = _
  cases x.selfD δ st c "__repr__" with
  | none => rfl
  | some d =>
    dsimp only [optK]
    rw [wp_bnd0, wp_noEx0]
    refine wp_cg fun r st1 => ?_
    try simp only [hold_1, hold_2]
    cases r with
    | ow c => rfl
    | vw i => rfl
    | fz d => cases d <;> rfl
end
end DL

/-! DL47: x == [], x != [] for lists that hold own objects (lists of unlike lengths). -/
namespace DL
open PySem PySem.Spec PyProof.Rows L2 TL
set_option autoImplicit false
/-- lists of unlike lengths -/
def rLens (K : PySem.W.Frag) (n : Bool) : R2 := fun x y H Q => ∃ a b xs ys, x = .ref a ∧ y = .ref b ∧ SqL K H a xs ∧ SqL K H b ys ∧ xs.length ≠ ys.length ∧ Q (.bl n) H
theorem op_lens {X : Cx} (n : Bool) (hu : X.A.units < cLine) : OpR X (compareOp (if n then .NotEq else .Eq)) (rLens X.K n) := by
  intro pins s σ H x y v u Q I rx ry h
  obtain ⟨a, b, xs, ys, rfl, rfl, ha, hb, hl, hq⟩ := h
  obtain rfl : v = Value.ref a := rx
  obtain rfl : u = Value.ref b := ry
  obtain ⟨i1, v1, p1, _⟩ := I.list ha
  obtain ⟨i2, v2, p2, _⟩ := I.list hb
  have hsz : (i1.toArray.size != i2.toArray.size) = true := by
    rw [List.size_toArray, List.size_toArray, ← v1.length, ← v2.length]
    exact bne_iff_ne.mpr hl
  have l1 : s.heap.IsList a i1.toArray := by obtain ⟨o, n, h1, h2, h3, h4⟩ := p1; exact ⟨o, h1, h2, n, h4⟩
  have l2 : s.heap.IsList b i2.toArray := by obtain ⟨o, n, h1, h2, h3, h4⟩ := p2; exact ⟨o, h1, h2, n, h4⟩
  cases n with
  | false => exact (SeqAt.RcAt.lists_lengths l1 l2 hsz hu) _ _ _ _ ⟨.bl false, H, I, rfl, hq⟩
  | true => exact (SeqAt.RcNeAt.lists_lengths l1 l2 hsz hu) _ _ _ _ ⟨.bl true, H, I, rfl, hq⟩
def kLens (n : Bool) : K2 := fun δ x y st => match x.asR δ st, y.asR δ st with
  | some ds, some es => if ds.length ≠ es.length then rbv n st else none
  | _, _ => none
theorem ok_lens {C : Ctx} (n : Bool) : CmpK C (if n then .NotEq else .Eq) (kLens n) := fun X ok => by
  refine ⟨_, op_lens n (by have := ok.unH; omega), fun W H0 F ρ δ st σ H Hs Ht x y v u Q S R R' P => ?_⟩
  unfold kLens at P
  split at P
  · rename_i ds es e1 e2
    split at P
    · rename_i hl
      obtain ⟨a, vs, rfl, h1, h2⟩ := asR_v S R e1
      obtain ⟨b, us, rfl, h3, h4⟩ := asR_v S R' e2
      refine ⟨a, b, vs, us, rfl, rfl, h1, h3, ?_, pB S P⟩
      rw [← h2.length, ← h4.length]
      exact hl
    · exact P.elim
  · exact P.elim
/-- its length, where the name alone tells -/
def lenN (δ : DEnv) : Rv → Option Nat
  | .fz (.lst ds) => some ds.length
  | .ow (.lst ds) => some ds.length
  | .vw n => (ownL δ n).map List.length
  | _ => none
def unlike (δ : DEnv) (x y : Rv) : Bool := match lenN δ x, lenN δ y with
  | some a, some b => a != b
  | _, _ => false
def kEqL (n : Bool) : K2 := kOr (kLens n) (kEq' n) unlike
theorem ok_eqL {C : Ctx} : CmpK C .Eq (kEqL false) := (ok_lens (C := C) false).or ok_eq'
theorem ok_neL {C : Ctx} : CmpK C .NotEq (kEqL true) := (ok_lens (C := C) true).or ok_ne'
section
variable {δ : DEnv} {st : Sto} {ds : List D} {m : Nat} {n : Bool} {X : Exn → Sto → Prop} {Q : Rv → Sto → Prop}
@[simp ↓] theorem wp_eqL_f : wp (kEqL n δ (.fz (.lst ds)) (.ow (.lst [])) st) Q X = Q (.fz (.bl (xor n ds.isEmpty))) st := by
  cases ds with
  | nil => cases n <;> rfl
  | cons d ds =>
    have e : kEqL n δ (.fz (.lst (d :: ds))) (.ow (.lst [])) = kLens n δ (.fz (.lst (d :: ds))) (.ow (.lst [])) := by unfold kEqL kOr; rw [if_pos (show unlike δ _ _ = true from rfl)]
    rw [e]
    show wp (if (d :: ds).length ≠ ([] : List D).length then rbv n st else none) Q X = _
    rw [if_pos (by simp)]
    cases n <;> rfl
@[simp ↓] theorem wp_eqL_o : wp (kEqL n δ (.ow (.lst ds)) (.ow (.lst [])) st) Q X = Q (.fz (.bl (xor n ds.isEmpty))) st := by
  cases ds with
  | nil => cases n <;> rfl
  | cons d ds =>
    have e : kEqL n δ (.ow (.lst (d :: ds))) (.ow (.lst [])) = kLens n δ (.ow (.lst (d :: ds))) (.ow (.lst [])) := by unfold kEqL kOr; rw [if_pos (show unlike δ _ _ = true from rfl)]
    rw [e]
    show wp (if (d :: ds).length ≠ ([] : List D).length then rbv n st else none) Q X = _
    rw [if_pos (by simp)]
    cases n <;> rfl
theorem unlike_v {es : List D} : unlike δ (.vw m) (.ow (.lst es)) = (match (ownL δ m).map List.length with
    | some a => a != es.length
    | none => false) := by
  show (match (ownL δ m).map List.length, some es.length with
    | some a, some b => a != b
    | _, _ => false) = _
  cases (ownL δ m).map List.length <;> rfl
@[simp ↓] theorem wp_eqL_v (h : ownL δ m = some ds) : wp (kEqL n δ (.vw m) (.ow (.lst [])) st) Q X = Q (.fz (.bl (xor n ds.isEmpty))) st := by
  have h2 : ownAt δ m = some (.lst ds) := by
    unfold ownL at h
    split at h
    · rename_i e; cases h; exact e
    · cases h
  have eL : (Rv.vw m).asR δ st = some ds := by
    show (Rv.vw m).asL δ st = some ds
    unfold Rv.asL
    rw [show (Rv.vw m).con δ st = ownAt δ m from rfl, h2]
  cases ds with
  | nil =>
    have e : kEqL n δ (.vw m) (.ow (.lst [])) = kEq' n δ (.vw m) (.ow (.lst [])) := if_neg (by
      rw [unlike_v, h]
      simp)
    rw [e]
    rw [wp_eqP_v, dat_vw, h2]
    cases n <;> simp
  | cons d ds =>
    have e : kEqL n δ (.vw m) (.ow (.lst [])) = kLens n δ (.vw m) (.ow (.lst [])) := if_pos (by
      rw [unlike_v, h]
      rfl)
    rw [e]
    unfold kLens
    rw [eL]
    show wp (if (d :: ds).length ≠ ([] : List D).length then rbv n st else none) Q X = _
    rw [if_pos (by simp)]
    cases n <;> rfl
end
end DL

/-! DL48: range(a, b) of any ints. -/
namespace DL
open PySem PySem.Spec PyProof.Rows L2 TL
set_option autoImplicit false
theorem turn_long {P : Program} {w : World} {K : PySem.W.Frag} {tg : Expr} (it : Addr) (lo : Int) (n : Nat) : Turn P w K tg (Itr lo n) [it] it (fun i h => IsLongIter h it (lo + (i : Nat) * 1) ((n : Int) - (i : Nat)) 1) where
  mem := by simp
  obj := fun i h st b hb => by
    have e : b = it := by simpa using hb
    subst e
    exact ⟨_, st, fun v z => by
      have z' : Data.fields _ = Data.cell v := z
      cases z'⟩
  keep := fun i h h' st k => k it (by simp) _ st
  item := by
    intro X hP hw hK hc i pins s σ H E I hf st hg
    subst hP hw hK
    obtain ⟨f0, f1, f2, f3, f4, f5⟩ := hf it (by simp)
    have W := Walks.longrange (prog := X.prog) (w := X.w) (I.ok.hd hc) it lo 1 n
    refine W.item i s _ _ hg st fun v h' tk hv st' kk => ?_
    obtain ⟨t, rfl⟩ := hv
    have I1 : Inv X pins σ H { s with heap := h', toks := tk } := I.turned (fun b o hb e => kk b o (by simpa using hb) e) f0 f1 f3 f4 f5
    refine ⟨_, rfl, go_of (s := { s with heap := h', toks := tk }) (n := "longrange_iterator") st' rfl rfl (by decide) ⟨.int (lo + i), H, I1, ⟨t, ?_⟩, ⟨rfl, rfl⟩, st', fun b hb => (hf b hb).1⟩⟩
    rw [Int.mul_one]
  done := by
    intro X hP hw hK hc i pins s σ H E I hf st hg
    subst hP hw hK
    obtain ⟨f0, f1, f2, f3, f4, f5⟩ := hf it (by simp)
    exact wpAny_pyNext_long_end (I.ok.hd hc) st (by have : n ≤ i := hg; omega) fun h' eb => ⟨rfl, I.turned (t' := s.toks) (fun b o hb e => eb b o hb e) f0 f1 f3 f4 f5⟩
  self := fun _ _ _ _ _ st h => wpAny_pyIter_longiter st h
section
variable {X : Cx} {tg : Expr}
theorem range_itW {pins : List (Addr × Obj)} {σ : L2.St} {H : Hp} {s : Shared} {R : L2.It → Hp → Prop} {E : Value → Shared → Prop} {lo hi : Int} {t u v : Tok} {tk : Nat} (I : Inv X pins σ H s)
    (q : R (Itr lo (hi - lo).toNat) H) : wpAny (model X.prog X.w) X.A (pyIter (.ref s.heap.objs.size)) (PIE X pins σ tg R) E { s with heap := s.heap.push { cls := .type "range", data := .fields #[.int lo t, .int hi u, .int 1 v] }, toks := tk } := by
  have I1 : Inv X pins σ H { s with heap := s.heap.push { cls := .type "range", data := .fields #[.int lo t, .int hi u, .int 1 v] }, toks := tk } := I.kept fun b o e => Heap.get?_push_of_some _ e
  have e2 : (((hi - lo).toNat : Nat) : Int) - ((0 : Nat) : Int) = Builtin.Range.rangeSize lo hi 1 := by rw [rangeSize_one]; split <;> omega
  have e1 : lo + ((0 : Nat) : Int) * 1 = lo := by simp
  by_cases hsm : Builtin.Range.small lo hi 1 = true
  · refine wpAny_pyIter_range (IsRange.new ..) hsm ?_
    refine ⟨(s.heap.push { cls := .type "range", data := .fields #[.int lo t, .int hi u, .int 1 v] }).objs.size, [(s.heap.push { cls := .type "range", data := .fields #[.int lo t, .int hi u, .int 1 v] }).objs.size], _, _, H, rfl,
      I1.kept (t' := tk) fun b o e => Heap.get?_push_of_some _ e, turn_range _ lo (hi - lo).toNat, ?_, fun b hb => ?_, q⟩
    · show IsRangeIter _ _ (lo + ((0 : Nat) : Int) * 1) ((((hi - lo).toNat : Nat) : Int) - ((0 : Nat) : Int)) 1
      rw [e1, e2]
      exact Heap.get?_push_size _ rfl
    · have e : b = (s.heap.push { cls := .type "range", data := .fields #[.int lo t, .int hi u, .int 1 v] }).objs.size := by simpa using hb
      subst e
      exact I1.fpOk (Nat.le_refl _) (I1.hok.fresh (Nat.le_refl _))
  · refine wpAny_pyIter_longrange (IsRange.new ..) (by simpa using hsm) ?_
    refine ⟨(s.heap.push { cls := .type "range", data := .fields #[.int lo t, .int hi u, .int 1 v] }).objs.size, [(s.heap.push { cls := .type "range", data := .fields #[.int lo t, .int hi u, .int 1 v] }).objs.size], _, _, H, rfl,
      I1.kept (t' := tk) fun b o e => Heap.get?_push_of_some _ e, turn_long _ lo (hi - lo).toNat, ?_, fun b hb => ?_, q⟩
    · show IsLongIter _ _ (lo + ((0 : Nat) : Int) * 1) ((((hi - lo).toNat : Nat) : Int) - ((0 : Nat) : Int)) 1
      rw [e1, e2]
      exact Heap.get?_push_size _ rfl
    · have e : b = (s.heap.push { cls := .type "range", data := .fields #[.int lo t, .int hi u, .int 1 v] }).objs.size := by simpa using hb
      subst e
      exact I1.fpOk (Nat.le_refl _) (I1.hok.fresh (Nat.le_refl _))
def iRng2W (ta : TA) : TI := fun σ H R => ta σ H fun vs H1 => ∃ i j : Int, vs = [.int i, .int j] ∧ R (Itr i (j - i).toNat) H1
theorem pi_range2W {a b : Expr} {ta : TA} {p pos : Pos} (hg : Gl X "range") (hm : X.mg "range" = none) (ha : PA X [a, b] ta) (hs : starEach [a, b] X.env = [(false, eval a X.env), (false, eval b X.env)] := by rfl) (hs2 : starEach [b] X.env = [(false, eval b X.env)] := by rfl) :
    PI X tg (.Call (.Name "range" p) [a, b] [] pos) (iRng2W ta) := by
  refine ⟨fun pins s σ H R I h => ?_⟩
  refine Call_ (ld_blt I hg hm boot_range (PyProof.Rows.callWith_type1 (thn (ha.run pos pins s σ H _ I h) fun us s1 ⟨vs, H1, I1, r1, q1⟩ => ?_) (by rw [hs, hs2]) (by rw [hs2]; rfl)))
  obtain ⟨i, j, e, q⟩ := q1
  subst e
  cases r1 with
  | cons r rr =>
    cases rr with
    | cons r' rr =>
      cases rr
      obtain ⟨t, rfl⟩ := r
      obtain ⟨t', rfl⟩ := r'
      exact call_range_2 (range_itW I1 q)
end
def gRange2W (gs : DEnv → M (List Rv)) : DEnv → M (List D) := fun δ => bnd (gs δ) fun rs => match rs with
  | [r, r'] => opt r.asI fun i => opt r'.asI fun j => ret (rangeD i (j - i).toNat)
  | _ => fail
section
variable {C : Ctx} {tg : Expr} {p pos : Pos} {gs : DEnv → M (List Rv)} {a b : Expr}
theorem di_range2W (hg : Glo C "range") (hm : C.mg "range" = none) (ha : DA C [a, b] gs) (hn : noStar a = true := by rfl) (hn2 : noStar b = true := by rfl) : DI C tg (.Call (.Name "range" p) [a, b] [] pos) (gRange2W gs) := fun X W ok tk => by
  refine piW (pi_range2W (ok.glo hg) (by rw [ok.mg]; exact hm) (ha X W ok tk) (by rw [star_eq hn, star_eq hn2] <;> rfl) (by rw [star_eq hn2] <;> rfl)) fun σ H R ⟨H0, F, ρ, δ, st, S, P⟩ => ?_
  refine ⟨H0, F, ρ, δ, st, S, PostI_bndA P fun F' ρ' st' H' vs rs A' S' R' P' => ?_⟩
  match rs, R', P' with
  | [r, r'], R', P' =>
    obtain ⟨v, u, rfl, R1, R2⟩ := R'.two
    obtain ⟨i, e1, P2⟩ := optI_ok P'
    obtain ⟨j, e2, P3⟩ := optI_ok P2
    exact ⟨i, j, by rw [asI_v R1 e1, asI_v R2 e2], P3 _ ρ' F' H' A' S' itd_range⟩
  | [], _, P' => exact P'.elim
  | [_], _, P' => exact P'.elim
  | _ :: _ :: _ :: _, _, P' => exact P'.elim
end
def rng2W (QI : List D → Sto → Prop) (st : Sto) : List Rv → Prop
  | [r, r'] => optK r.asI (hold (q := ⟨fun i => optK r'.asI (hold (q := ⟨fun j => QI (rangeD i (j - i).toNat) st⟩))⟩))
  | _ => False
section
variable {δ : DEnv} {st : Sto} {r r' : Rv} {X : Exn → Sto → Prop} {QI : List D → Sto → Prop} {gs : DEnv → M (List Rv)}
@[simp ↓] theorem rng2W_2 : rng2W QI st [r, r'] = optK r.asI (hold (q := ⟨fun i => optK r'.asI (hold (q := ⟨fun j => QI (rangeD i (j - i).toNat) st⟩))⟩)) := (rfl)
@[simp ↓] theorem wp_range2W : wp (gRange2W gs δ st) QI X = wp (gs δ st) (hold (q := ⟨fun rs st1 => rng2W QI st1 rs⟩)) X := by
  unfold gRange2W
  rw [wp_bnd0]
  refine wp_cg fun rs st1 => ?_
  try simp only [hold_1, hold_2]
  match rs with
  | [] => rfl
  | [_] => rfl
  | [r, r'] =>
    rw [rng2W_2]
    show wp (opt r.asI _ st1) QI X = _
    rw [wp_opt0]
    refine optK_cg fun j => ?_
    try simp only [hold_1, hold_2]
    rw [wp_opt0]
    rfl
  | _ :: _ :: _ :: _ => rfl
end
end DL

/-! DL49: len({e for .. in ..}) of ints. -/
namespace DL
open PySem PySem.Spec PyProof.Rows L2 TL
set_option autoImplicit false
/-! ### the model's side: a set comprehension of ints -/
/-- with k put in -/
abbrev putS (w : World) (D : Addr) (S : Int → Bool) (n : Nat) (k : Int) : HO := SetO w D (fun j => S j || decide (j = k)) (if S k = true then n else n + 1)
abbrev set0 (w : World) (D : Addr) : HO := SetO w D (fun _ => false) 0
def tSn (w : World) (wi : TI) (g : TG) (tt : TT) (te : TE) (vs : List Nat) : TE := fun σ H Q => wi σ H fun J H1 => ∀ D, H1 D = none →
  ∃ W : Nat → Nat → Hp → Prop, (∃ m, W 0 m (upd H1 D (set0 w D))) ∧ ∀ i m H, W i m H → (J.stop i H ∧ Q (.ref D) H) ∨
    (J.go i H ∧ ∃ Nx : Hp → Prop, (∀ H', Nx H' → ∃ m', m' < m ∧ W (i + 1) m' H') ∧
      ∀ x H', J.yld i H x H' → g x (wipe σ vs) H' fun σ2 H2 => wipe σ2 vs = wipe σ vs ∧ tt σ2 H2 fun b H3 => if b = true then te σ2 H3 fun y H4 => ∃ (k : Int) (S : Int → Bool) (n : Nat), y = .int k ∧ H4 D = some (SetO w D S n) ∧ n + 1 < scanBound ∧ Nx (upd H4 D (putS w D S n k)) else Nx H3)
section
variable {X : Cx}
theorem putS_ok {pins : List (Addr × Obj)} {σ : L2.St} {H : Hp} {s : Shared} {Er : Value → Shared → Prop} {D : Addr} {S : Int → Bool} {n : Nat} {k : Int} {tk : Tok} {Q : Value → Shared → Prop} (I : Inv X pins σ H s)
    (hD : H D = some (SetO X.w D S n)) (room : n + 1 < scanBound) (h : ∀ s', Inv X pins σ (upd H D (putS X.w D S n k)) s' → Q .none s') : wpAny (model X.prog X.w) X.A (call (.builtin "set.add") [.ref D, .int k tk]) Q Er s :=
  setR_add (setO_get I hD) room fun h' sb new =>
    have he : ∃ u, h'.get? D = some u := let ⟨o, _, _, _, ho, _⟩ := new; ⟨o, ho⟩
    h _ (I.write (e := D) (t' := s.toks + 1) (by rw [hD]; trivial) (.inl rfl) (fun b u hb hu => (sb.2 b hb).trans hu) he (setO_new new))
/-- the object that a set comprehension begins with -/
abbrev emptySet (w : World) : Obj := { cls := .type "set", dict := none, data := .set #[] 0 (.fresh 0 0 (!w.params.followText "set-order")) }
theorem scn_core {pins : List (Addr × Obj)} {s : Shared} {σ : L2.St} {H : Hp} {Q : VK} {elt tg iter : Expr} {ifs : List Expr} {sc : Scope} {own : List (PySem.Str × Nat)} {pos pos' : Pos} {wi : TI} {g : TG} {tt : TT} {te : TE} {use : Option (Value → Sem Unit)} {Qf : Value → Shared → Prop}
    (hc : X.calm = true) (hN : X.N.Nodup) (I : Inv X pins σ H s)
    (hi : PI X tg iter wi) (ok : BlkOk X.N X.env.scope sc own)
    (hg : ∀ (s : Shared) (H : Hp) (L : Addr) (cl : List (PySem.Str × Addr)) (fp : List Addr), PG (X.blk s H sc (compEnvC sc cl L X.env) fp) tg g)
    (ht : ∀ (s : Shared) (H : Hp) (L : Addr) (cl : List (PySem.Str × Addr)) (fp : List Addr), PTs (X.blk s H sc (compEnvC sc cl L X.env) fp) ifs tt)
    (he : ∀ (s : Shared) (H : Hp) (L : Addr) (cl : List (PySem.Str × Addr)) (fp : List Addr), PE (X.blk s H sc (compEnvC sc cl L X.env) fp) elt te)
    (hs : ∀ x, foldedSetIterable iter X.env x = pure x) (h : tSn X.w wi g tt te (own.map (·.2)) σ H Q)
    (hRR : ∀ D L s' m H', Inv X pins σ H' s' → Q (.ref D) H' → s'.heap.Ns L m → FpOk X pins H' L → compPost (model X.prog X.w) X.A X.xe use Qf (.ref D) L (.ok .next) s') :
    wpAny (model X.prog X.w) X.A (comprehension (.SetComp elt [⟨tg, iter, ifs, 0⟩] sc pos) sc X.env pos' (newSet (.type "set")) false (eval iter X.env) use) Qf X.xe s := by
  have hfr : ∀ y ∈ sc.names, y.2 = .free → ∃ c, X.env.cells.lookup y.1 = some c := fun y hy e => (ok.free y hy e).elim (fun k => I.ok.has _ (.inl k)) fun k => I.ok.has _ (.inr k)
  refine wpAny_comprehension_free (use := use) rfl hs (closure_ok hfr) ok.kind (fun y hy e => by rw [ok.uniq y hy, e]) (thn (hi.run pins s σ H _ I h) fun xv s1 hx => thn hx fun itv s2 h2 => ?_)
  obtain ⟨it, fp, tn, J, H2, eit, I2, T, stA, fA, q⟩ := h2
  subst eit
  refine PpSet.newSet_ok (newEnv_comp ?_)
  generalize hD : s2.heap.objs.size = D
  have hDn : H2 D = none := I2.hok.fresh (Nat.le_of_eq hD)
  obtain ⟨W, ⟨m0, w0⟩, turn⟩ := q D hDn
  generalize hs3 : ({ s2 with heap := s2.heap.push (emptySet X.w) } : Shared) = s3
  have h3 : s3.heap = s2.heap.push (emptySet X.w) := by subst hs3; rfl
  have I3 : Inv X pins σ (upd H2 D (set0 X.w D)) s3 := by
    subst hs3
    refine I2.laid (t' := s2.toks) (fun b o z => Heap.get?_push_of_some _ z) (Nat.le_of_eq hD) ?_
    subst hD
    exact setO_new (setR_fresh X.w)
  have below : ∀ b ∈ fp, b < s2.heap.objs.size := fun b hb => let ⟨o, z, _⟩ := T.obj _ _ stA b hb; Heap.lt_size z
  have fB : ∀ b ∈ fp, FpOk X pins (upd H2 D (set0 X.w D)) b ∧ b < s3.heap.objs.size := fun b hb => by
    have hlt := below b hb
    have ne : b ≠ D := by subst hD; exact Nat.ne_of_lt hlt
    exact ⟨⟨by rw [upd_ne ne]; exact (fA b hb).1, (fA b hb).2⟩, by rw [h3, Heap.size_push]; exact Nat.lt_succ_of_lt hlt⟩
  have stB : tn 0 s3.heap := T.keep _ _ _ stA fun b _ o z => by rw [h3]; exact Heap.get?_push_of_some _ z
  have I4 := block_start I3 ok hN fB
  generalize hcl : cellsFrom (s3.heap.objs.size + 1) sc.names (cloFrom X.env.cells sc.names []) = clo at I4
  have pg := hg s3 (upd H2 D (set0 X.w D)) s3.heap.objs.size clo fp
  have pt := ht s3 (upd H2 D (set0 X.w D)) s3.heap.objs.size clo fp
  have pe := he s3 (upd H2 D (set0 X.w D)) s3.heap.objs.size clo fp
  show codeAny _ _ (.compStart (.SetComp elt [⟨tg, iter, ifs, 0⟩] sc pos) 0 (.ref it) (.ref D) (compEnvC sc clo s3.heap.objs.size X.env)) (compPost (model X.prog X.w) X.A X.xe use Qf (.ref D) s3.heap.objs.size) { s3 with heap := pushCells (s3.heap.push { cls := .type "dict", data := .dict #[] }) sc.names }
  have free0 : ∀ b ∈ fp, (upd H2 D (set0 X.w D)) b = none := fun b hb => (fB b hb).1.1
  generalize hce : compEnvC sc clo s3.heap.objs.size X.env = ce at I4 pg pt pe ⊢
  have cL : ce.locals = s3.heap.objs.size := by subst hce; rfl
  generalize upd H2 D (set0 X.w D) = H3 at I3 I4 pg pt pe w0 free0 fB
  generalize hs4 : ({ s3 with heap := pushCells (s3.heap.push { cls := .type "dict", data := .dict #[] }) sc.names } : Shared) = s4 at I4 ⊢
  have stC : tn 0 s4.heap := T.keep _ _ _ stB fun b _ o z => by subst hs4; exact pushCells_keeps _ _ _ _ (Heap.get?_push_of_some _ z)
  have around : ∀ {σ' : L2.St} {H' : Hp} {s' : Shared}, Inv (X.blk s3 H3 sc ce fp) [] σ' H' s' → (∀ b ∈ fp, H' b = none) → ∀ b ∈ fp, FpOk (X.blk s3 H3 sc ce fp) [] H' b := fun {σ' H' s'} I' hn b hb =>
    have z := I'.ok.exf b hb
    ⟨hn b hb, z.1, I'.ok.exfs b hb, .inl hb, fun x c e => z.2 x c e, fun p hp => absurd (show p ∈ ([] : List (Addr × Obj)) ++ [] from hp) List.not_mem_nil⟩
  have whole : codeAny (model X.prog X.w) X.A (.compLoop (.SetComp elt [⟨tg, iter, ifs, 0⟩] sc pos) 0 (.ref it) (.ref D) ce) (compPost (model X.prog X.w) X.A X.xe use Qf (.ref D) s3.heap.objs.size) s4 := by
    refine PpSet.compLoopS_any (fun n s' => ∃ i H', Inv (X.blk s3 H3 sc ce fp) [] (wipe σ (own.map (·.2))) H' s' ∧ tn i s'.heap ∧ (∀ b ∈ fp, H' b = none) ∧ W i n H') ?_ m0 ⟨0, H3, I4, stC, free0, w0⟩
    rintro n s5 ⟨i, H5, I5, st5, n5, w5⟩
    rcases turn i n H5 w5 with ⟨stop, qq⟩ | ⟨go, Nx, hNx, step⟩
    · refine thnF (T.done (X.blk s3 H3 sc ce fp) rfl rfl rfl hc i [] s5 _ H5 (fun _ _ => False) I5 (around I5 n5) st5 stop) fun r s6 ⟨hr, I6⟩ => ?_
      subst hr
      have I7 : Inv X pins σ H5 s6 := I3.call' (ch := fp) I6.os I6.base I6.hok I6.bare fun b hb => let f := (fB b hb).1.2; ⟨f.2.2.1, f.1, f.2.2.2.1, f.2.2.2.2⟩
      have nC : H5 s3.heap.objs.size = none := cL ▸ (show H5 ce.locals = none from I6.free)
      obtain ⟨m, hn, _⟩ := I6.loc
      have hn : s6.heap.Ns ce.locals m := hn
      exact hRR D s3.heap.objs.size s6 m H5 I7 qq (cL ▸ hn) (I3.fpOk (Nat.le_refl _) nC)
    · refine thnF (T.item (X.blk s3 H3 sc ce fp) rfl rfl rfl hc i [] s5 _ H5 (fun _ _ => False) I5 (around I5 n5) st5 go) fun r s6 ⟨u, hr, h6⟩ => ?_
      subst hr
      refine thnF h6 fun _ s7 ⟨x, H7, I7, r7, y7, st7, n7⟩ => ?_
      have I7' := I7.pinned (around I7 n7) (T.obj _ _ st7)
      refine thnF (pg.run _ s7 _ H7 x u _ I7' r7 (step x H7 y7)) fun _ s8 ⟨σ8, H8, I8, hw8, q8⟩ => ?_
      refine thnF (pt.run _ s8 σ8 H8 _ I8 q8) fun b s9 ⟨H9, I9, q9⟩ => ?_
      have fin : ∀ {s' : Shared} {H' : Hp}, Inv (X.blk s3 H3 sc ce fp) ([] ++ pinsAt fp s7.heap) σ8 H' s' → Nx H' → ∃ m, m < n ∧ ∃ i H', Inv (X.blk s3 H3 sc ce fp) [] (wipe σ (own.map (·.2))) H' s' ∧ tn i s'.heap ∧ (∀ b ∈ fp, H' b = none) ∧ W i m H' := fun {s' H'} I' nx => by
        obtain ⟨m', hm, w'⟩ := hNx H' nx
        have kept : ∀ b ∈ fp, ∀ o, s7.heap.get? b = some o → s'.heap.get? b = some o ∧ H' b = none := fun b hb o z =>
          have p := I'.pin (b, o) (List.mem_append_right _ (List.mem_append_right _ (mem_pinsAt hb z)))
          ⟨p.1, p.2.1⟩
        have hl : (wipe σ (own.map (·.2))).length = σ8.length := by rw [← hw8, wipe_length]
        refine ⟨m', hm, i + 1, H', (I'.unpinned (pins := [])).weak hl (fun j v z => (wipe_some (hw8 ▸ z)).1), T.keep _ _ _ st7 fun b hb o z => (kept b hb o z).1, fun b hb => ?_, w'⟩
        obtain ⟨o, z, _⟩ := T.obj _ _ st7 b hb
        exact (kept b hb o z).2
      cases b with
      | false =>
        simp only [Bool.false_eq_true, if_false] at q9 ⊢
        exact fin I9 q9
      | true =>
        simp only [if_true] at q9 ⊢
        refine thnF (pe.run _ s9 σ8 H9 _ I9 q9) fun z s10 ⟨yv, H10, I10, r10, k, S0, n0, ey, hD10, room, nx⟩ => ?_
        subst ey
        obtain ⟨tk, rfl⟩ := (show ∃ tk, z = Value.int k tk from r10)
        exact putS_ok (X := X.blk s3 H3 sc ce fp) I10 hD10 room fun s11 I11 => fin I11 nx
  exact PpSet.codeAny_compStart_set whole (T.self X.A 0 _ _ _ stC whole)
theorem pe_scn {elt tg iter : Expr} {ifs : List Expr} {sc : Scope} {own : List (PySem.Str × Nat)} {pos : Pos} {wi : TI} {g : TG} {tt : TT} {te : TE} (hc : X.calm = true) (hN : X.N.Nodup)
    (hi : PI X tg iter wi) (ok : BlkOk X.N X.env.scope sc own)
    (hg : ∀ (s : Shared) (H : Hp) (L : Addr) (cl : List (PySem.Str × Addr)) (fp : List Addr), PG (X.blk s H sc (compEnvC sc cl L X.env) fp) tg g)
    (ht : ∀ (s : Shared) (H : Hp) (L : Addr) (cl : List (PySem.Str × Addr)) (fp : List Addr), PTs (X.blk s H sc (compEnvC sc cl L X.env) fp) ifs tt)
    (he : ∀ (s : Shared) (H : Hp) (L : Addr) (cl : List (PySem.Str × Addr)) (fp : List Addr), PE (X.blk s H sc (compEnvC sc cl L X.env) fp) elt te)
    (hs : ∀ x, foldedSetIterable iter X.env x = pure x) : PE X (.SetComp elt [⟨tg, iter, ifs, 0⟩] sc pos) (tSn X.w wi g tt te (own.map (·.2))) :=
  ⟨fun pins s σ H Q I h => by
    rw [PpSet.eval_SetComp]
    refine scn_core hc hN I hi ok hg ht he hs h fun D L s' m H' I' q hn f => ⟨m, hn, fun h'' sb => ?_⟩
    obtain ⟨f0, f1, f2, f3, f4, f5⟩ := f
    exact ⟨.ref D, H', I'.turned (t' := s'.toks) (fun b o hb z => (sb.2 b hb).trans z) f0 f1 f3 f4 f5, rfl, q⟩⟩
/-- len of a set of ints -/
def rSetLen (w : World) : List V → Hp → VK → Prop := fun xs H Q => ∃ (a : Addr) (S : Int → Bool) (n : Nat), xs = [V.ref a] ∧ H a = some (SetO w a S n) ∧ Q (.int n) H
theorem cr_setLen : CallR X (.builtin "len") (rSetLen X.w) := by
  intro pins s σ H xs us Q I r h
  obtain ⟨a, S, n, rfl, ha, q⟩ := h
  cases r with
  | cons ry rt =>
    cases rt
    cases ry
    obtain ⟨o, es, ep, t, ho, hex, hd, _, _, _, hb, hf, hn, _⟩ := setO_get I ha
    have hbb : es.size < 4096 := hb
    refine call_len_set ho hex hd hf (by omega) ⟨.int n, H, (I.tok _).tok _, ⟨_, by rw [hn]⟩, q⟩
end
/-! ### the layer's side -/
def compS (t : GT) (tt : DEnv → M Bool) (te : DEnv → M Rv) (δ : DEnv) : List D → List Int → M (List Int)
  | [], acc => ret acc
  | d :: ds, acc => match t d δ with
    | none => fail
    | some δ1 => bnd (noEx (tt δ1)) fun b => if b then bnd (noEx (gFrz te δ1)) fun r => match r with
        | .fz (.int k) => if acc.length < 4000 then compS t tt te δ ds (if decide (k ∈ acc) then acc else acc ++ [k]) else fail
        | _ => fail
      else compS t tt te δ ds acc
def gLenSc (gi : DEnv → M (List D)) (vs : List Nat) (t : GT) (tt : DEnv → M Bool) (te : DEnv → M Rv) : DEnv → M Rv := fun δ => bnd (gi δ) fun ds => bnd (compS t tt te (wipeD δ vs) ds []) fun acc => ret (.fz (.int acc.length))
structure FilS (w : World) (g : GG) (H0 F0 Hb : Hp) (ρ0 : List Addr) (F1 : Hp) (ρ1 : List Addr) (δ0 : DEnv) (σ0 : L2.St) (F : Hp) (ρ : List Addr) (st : Sto) (l : List Int) (L : Addr) (H : Hp) : Prop where
  A : After ρ0 F0 Hb ρ F H
  e : Same F1 F
  p : ∃ l, ρ = ρ1 ++ l
  S : St0 g H0 F ρ δ0 st σ0 H
  f : F L = none
  n : L ∉ ρ
  k : H L = some (SetO w L (fun j => decide (j ∈ l)) l.length)
section
variable {w : World} {g : GG} {H0 F0 Hb F1 F F' H H' : Hp} {ρ0 ρ1 ρ ρ' : List Addr} {δ0 : DEnv} {σ0 : L2.St} {st st' : Sto} {l l' : List Int} {L : Addr}
theorem FilS.after (f : FilS w g H0 F0 Hb ρ0 F1 ρ1 δ0 σ0 F ρ st l L H) (A : After ρ F H ρ' F' H') (fs : Same F' H') (sto : StoOk g F' ρ' st' H') : FilS w g H0 F0 Hb ρ0 F1 ρ1 δ0 σ0 F' ρ' st' l L H' := by
  obtain ⟨l1, hl⟩ := f.p
  obtain ⟨l2, hl'⟩ := A.ex
  exact ⟨f.A.trans A, f.e.trans A.ff, ⟨l1 ++ l2, by rw [hl', hl, List.append_assoc]⟩, f.S.later A fs sto, A.unf f.k f.n f.f, A.nmem f.n f.k, A.hk _ _ f.k f.n⟩
theorem FilS.put {o : HO} (f : FilS w g H0 F0 Hb ρ0 F1 ρ1 δ0 σ0 F ρ st l L H) (bL : Hb L = none) (ns : ∀ (i : Nat) (c : Con), δ0[i]? = some (some (.ow c)) → σ0[i]? ≠ some (some (.ref L))) (k : o = SetO w L (fun j => decide (j ∈ l')) l'.length) :
    FilS w g H0 F0 Hb ρ0 F1 ρ1 δ0 σ0 F ρ st l' L (upd H L o) :=
  ⟨f.A.fill bL, f.e, f.p, f.S.fill f.f f.n ns, f.f, f.n, by rw [k]; exact upd_same⟩
end
theorem putS_eq {w : World} {L : Addr} {l : List Int} {k : Int} : putS w L (fun j => decide (j ∈ l)) l.length k = SetO w L (fun j => decide (j ∈ (if decide (k ∈ l) then l else l ++ [k]))) (if decide (k ∈ l) then l else l ++ [k]).length := by
  unfold putS
  by_cases h : k ∈ l
  · simp only [h, decide_true, if_true]
    congr 1
    funext j
    by_cases e : j = k
    · subst e; simp [h]
    · simp [e]
  · simp only [h, decide_false, Bool.false_eq_true, if_false]
    congr 1
    · funext j
      rw [Bool.eq_iff_iff]
      simp
    · simp
section
variable {C : Ctx} {tg iter ex : Expr} {ifs : List Expr} {gi : DEnv → M (List D)} {t : GT} {tt : DEnv → M Bool} {te : DEnv → M Rv} {p q pos : Pos} {T : List Nat} {scope : Scope} {own : List (Str × Nat)}
theorem scn_rd {X : Cx} {W : WX} {σ : L2.St} {H : Hp} {Q : VK} {vs : List Nat} (hT : ∀ i ∈ T, i ∈ vs) (h : rdE (xg X) W (gLenSc gi vs t tt te) σ H Q) : tSn X.w (rdI (xg X) W gi) (rdG (xg X) t T) (rdT (xg X) W0 tt) (rdE (xg X) W0 (gFrz te)) vs σ H fun x H1 => rSetLen X.w [x] H1 Q := by
  obtain ⟨H0, F0, ρ0, δ, st, S0, P⟩ := h
  refine ⟨H0, F0, ρ0, δ, st, S0, ?_⟩
  unfold gLenSc at P
  match e : gi δ st, P with
  | none, P => unfold bnd at P; rw [e] at P; exact P
  | some (.ex x, st1), P => unfold bnd at P; rw [e] at P; exact P
  | some (.ok ds, st1), P =>
    have P : PostE (xg X) W H0 F0 ρ0 δ σ H (bnd (compS t tt te (wipeD δ vs) ds []) (fun acc => ret (.fz (.int acc.length))) st1) Q := by
      unfold bnd at P; rw [e] at P; exact P
    intro J ρ1 F1 H1 A1 S1 I1 L nL
    have nLρ : L ∉ ρ1 := S1.nmem nL
    have fL : F1 L = none := S1.fs.free nL
    have bL : H L = none := A1.back (fun z => nLρ (A1.mem z)) nL
    have ns : ∀ (i : Nat) (c : Con), δ[i]? = some (some (.ow c)) → σ[i]? ≠ some (some (.ref L)) := fun i c q z => by
      obtain ⟨u, u1, a, rfl, _, _, _, k⟩ := S0.slot i _ q
      rw [z] at u1; cases u1
      obtain ⟨o, ho⟩ := k.there
      rw [bL] at ho; cases ho
    refine ⟨fun i m H' => m = ds.length - i ∧ i ≤ ds.length ∧ ∃ F ρ st acc, FilS X.w (xg X) H0 F0 H ρ0 F1 ρ1 δ σ F ρ st acc L H' ∧ PostE (xg X) W H0 F0 ρ0 δ σ H (bnd (compS t tt te (wipeD δ vs) (ds.drop i) acc) (fun acc => ret (.fz (.int acc.length))) st) Q,
      ⟨ds.length, by simp, Nat.zero_le _, F1, ρ1, st1, [], ⟨A1.fill bL, Same.refl _, ⟨[], by simp⟩, S1.fill fL nLρ ns, fL, nLρ, by rw [upd_same]; congr 2⟩, P⟩, ?_⟩
    rintro i m H2 ⟨rfl, hi, F2, ρ2, st2, acc, f2, P2⟩
    by_cases hlt : i < ds.length
    · refine .inr ⟨I1.go f2.e f2.p f2.S.fs hlt, fun H' => ∃ F ρ st acc, FilS X.w (xg X) H0 F0 H ρ0 F1 ρ1 δ σ F ρ st acc L H' ∧ PostE (xg X) W H0 F0 ρ0 δ σ H (bnd (compS t tt te (wipeD δ vs) (ds.drop (i + 1)) acc) (fun acc => ret (.fz (.int acc.length))) st) Q, fun H' h' => ⟨ds.length - (i + 1), by omega, rfl, hlt, h'⟩, fun x H3 hy => ?_⟩
      have hd : ds.drop i = ds[i] :: ds.drop (i + 1) := List.drop_eq_getElem_cons hlt
      rw [hd] at P2
      obtain ⟨F3, x3, r3⟩ := I1.yld f2.e f2.p f2.S.fs (List.getElem?_eq_getElem hlt) hy
      have S3 := f2.S.ext x3
      have f3 := f2.after x3.after S3.fs S3.sto
      unfold compS at P2
      refine ⟨H0, F3, ρ2, wipeD δ vs, st2, ds[i], wipe_ok S3 vs, r3, ?_⟩
      cases q : t ds[i] (wipeD δ vs) with
      | none => rw [q] at P2; exact P2.elim
      | some δ1 =>
        rw [q] at P2
        dsimp only at P2
        intro σ1 o1 S4
        refine ⟨by rw [wipe_off hT o1]; exact wipe_off (T := vs) (fun i h => h) ⟨wipe_length σ vs, fun i h => wipe_out h⟩, H0, F3, ρ2, δ1, st2, S4, dT1 P2 fun F4 ρ4 st4 H4 b A4 S5 P4 => ?_⟩
        have f4 := f3.after A4 S5.fs S5.sto
        cases b with
        | false =>
          simp only [Bool.false_eq_true, if_false] at P4 ⊢
          exact ⟨F4, ρ4, st4, acc, f4, P4⟩
        | true =>
          simp only [if_true] at P4 ⊢
          refine ⟨H0, F4, ρ4, δ1, st4, S5, dE1 P4 fun F5 ρ5 st5 H5 y r A5 S6 R5 P5 => ?_⟩
          have f5 := f4.after A5 S6.fs S6.sto
          match r, R5, P5 with
          | .fz (.int k), R5, P5 =>
            dsimp only at P5
            by_cases hl : acc.length < 4000
            · rw [if_pos hl] at P5
              have ey : y = .int k := Rep.int_v R5
              refine ⟨k, _, _, ey, f5.k, (by show acc.length + 1 < 4096; omega), F5, ρ5, st5, _, f5.put bL ns putS_eq, P5⟩
            · rw [if_neg hl] at P5; exact P5.elim
          | .ow _, _, P5 => exact P5.elim
          | .vw _, _, P5 => exact P5.elim
          | .fz .non, _, P5 => exact P5.elim
          | .fz (.bl _), _, P5 => exact P5.elim
          | .fz (.str _), _, P5 => exact P5.elim
          | .fz (.tup _), _, P5 => exact P5.elim
          | .fz (.lst _), _, P5 => exact P5.elim
          | .fz (.rol _), _, P5 => exact P5.elim
          | .fz (.obj _ _), _, P5 => exact P5.elim
          | .fz (.dk _), _, P5 => exact P5.elim
          | .fz (.dt _), _, P5 => exact P5.elim
          | .fz (.loc _), _, P5 => exact P5.elim
          | .fz (.ty _), _, P5 => exact P5.elim
          | .fz (.exc _ _), _, P5 => exact P5.elim
          | .fz (.tab _ _), _, P5 => exact P5.elim
    · have : i = ds.length := by omega
      subst this
      rw [List.drop_length] at P2
      exact .inl ⟨I1.stop f2.e f2.p f2.S.fs (Nat.le_refl _), L, _, _, rfl, f2.k, P2 (.int acc.length) ρ2 F2 H2 f2.A f2.S .int⟩
theorem de_lenSc (hgl : Glo C "len") (hml : C.mg "len" = none) (hi : DI C tg iter gi) (bk : blkC C.N C.sc scope own = true) (hg : DG (C.blk scope) tg t T) (ht : DTs (C.blk scope) ifs tt) (he : DE (C.blk scope) ex te) (hT : ∀ i ∈ T, i ∈ own.map (·.2) := by decide) (hs : ∀ (env : Env) x, foldedSetIterable iter env x = pure x := by intro _ _; rfl) (hh : C.hot = false := by rfl) :
    DE C (.Call (.Name "len" p) [.SetComp ex [⟨tg, iter, ifs, 0⟩] scope pos] [] q) (gLenSc gi (own.map (·.2)) t tt te) := fun X W ok tk2 => by
  have h1 := pe_scn (X := X) (own := own) (pos := pos) (g := rdG (xg X) t T) (tt := rdT (xg X) W0 tt) (te := rdE (xg X) W0 (gFrz te)) (ok.calm hh) (by rw [ok.N]; exact ok.nd) (hi X W ok tk2) (by rw [ok.N, ok.sc]; exact blkOk_by bk)
    (fun s H L cl fp => hg _ W0 (ok.blk scope s H L cl fp) takes0) (fun s H L cl fp => ht _ W0 (ok.blk scope s H L cl fp) takes0) (fun s H L cl fp => de_frz he _ W0 (ok.blk scope s H L cl fp) takes0) (hs _)
  refine peW (pe_callB cr_setLen (ok.glo hgl) (by rw [ok.mg]; exact hml) bt_len (pa_cons h1 pa_nil)) fun σ H Q h => ?_
  exact scn_rd hT h
end
section
variable {t : GT} {tt : DEnv → M Bool} {te : DEnv → M Rv} {gi : DEnv → M (List D)} {vs : List Nat} {δ : DEnv} {st : Sto} {Q : Rv → Sto → Prop} {X : Exn → Sto → Prop}
/-- ints without those that stood ahead -/
def firsts : List Int → List Int → List Int
  | acc, [] => acc
  | acc, k :: l => firsts (if decide (k ∈ acc) then acc else acc ++ [k]) l
theorem firsts_len : ∀ (l acc : List Int), (firsts acc l).length ≤ acc.length + l.length
  | [], acc => by simp [firsts]
  | k :: l, acc => by
    have := firsts_len l (if decide (k ∈ acc) then acc else acc ++ [k])
    unfold firsts
    split at this <;> simp at this ⊢ <;> split <;> simp_all <;> omega
theorem wp_compS {Q : List Int → Sto → Prop} : ∀ (l acc : List Int), acc.length + l.length ≤ 4000 →
    (∀ k ∈ l, optK (t (.int k) δ) fun δ1 => wp (tt δ1 st) (fun b st1 => b = true ∧ wp (te δ1 st1) (fun r st2 => r.frz = .fz (.int k) ∧ st2 = st) noX) noX) → Q (firsts acc l) st → wp (compS t tt te δ (l.map D.int) acc st) Q X
  | [], acc, _, _, h => h
  | k :: l, acc, hl, hs, h => by
    have h1 := hs k (by simp)
    rw [List.map_cons]
    unfold compS
    cases e : t (.int k) δ with
    | none => rw [e] at h1; exact h1.elim
    | some δ1 =>
      rw [e] at h1
      dsimp only
      obtain ⟨b, st1, e1, rfl, q1⟩ := wp_of (show wp (tt δ1 st) _ noX from h1)
      rw [bnd_ok (show noEx (tt δ1) st = some (.ok true, st1) by unfold noEx; rw [e1])]
      obtain ⟨r, st2, e2, q2, e3⟩ := wp_of q1
      rw [if_pos rfl, bnd_ok (show noEx (gFrz te δ1) st1 = some (.ok r.frz, st2) by unfold noEx gFrz; rw [bnd_ok e2]; rfl), q2, e3]
      dsimp only
      simp only [List.length_cons] at hl
      rw [if_pos (show acc.length < 4000 by omega)]
      refine wp_compS l _ ?_ (fun k hk => hs k (by simp [hk])) h
      split
      · omega
      · simp; omega
@[simp ↓] theorem wp_lenSc : wp (gLenSc gi vs t tt te δ st) Q X = wp (gi δ st) (hold (q := ⟨fun ds st1 => wp (compS t tt te (wipeD δ vs) ds [] st1) (hold (q := ⟨fun acc st2 => Q (.fz (.int acc.length)) st2⟩)) X⟩)) X := by
  unfold gLenSc
  rw [wp_bnd0]
  refine wp_cg fun ds st1 => ?_
  try simp only [hold_1, hold_2]
  rw [wp_bnd0]
  rfl
end
end DL

/-! DL50: sorted of a tuple of ints. -/
namespace DL
open PySem PySem.Spec PyProof.Rows L2 TL
set_option autoImplicit false
section
variable {prog : Program} {w : World} {A : Around} {Er : Value → Shared → Prop} {s : Shared}
/-- the heap where a new list of the items stands -/
abbrev gathered (h : Heap) (vs : List Value) : Heap := (h.push (seqObj "list" #[] 0)).update h.objs.size (Obj.mapSeq (· ++ vs.toArray))
theorem collectT {p : Addr} {vs : List Value} {Q : List Value → Shared → Prop} (tup : IsTup s.heap p vs.toArray) (small : vs.length ≤ sizeLine) (h : Q vs { s with heap := gathered s.heap vs }) :
    wpAny (model prog w) A (collect (.ref p)) Q Er s := by
  obtain ⟨ob, at0, cls, n, dat⟩ := tup
  have at1 : (s.heap.push (seqObj "list" #[] 0)).get? p = some ob := Heap.get?_push_of_some _ at0
  have new1 : (s.heap.push (seqObj "list" #[] 0)).get? s.heap.objs.size = some (seqObj "list" #[] 0) := Heap.get?_push_size _ rfl
  unfold collect
  refine wpAny_bind (wpAny_runValue (codeAny_builtin entry_proto_collect' (show wpAny _ _ (do again (.builtin "list.__iadd__" ⟨[← newList [], .ref p], []⟩)) _ _ s from ?_)))
  refine wpAny_bind (wpAny_newList (wpAny_pure ⟨Code.quiet_builtin _ (by decide +kernel), codeAny_builtin entry_list_iadd' ?_⟩))
  show wpAny _ _ (Builtin.List.listExtendWith (.ref s.heap.objs.size) (.ref p) (.ref s.heap.objs.size)) _ _ { s with heap := s.heap.push (seqObj "list" #[] 0) }
  unfold Builtin.List.listExtendWith
  refine wpAny_bind (wpAny_typeOf (T := "tuple") ⟨ob, at1, cls⟩ ?_)
  rw [if_pos (by rw [show (Value.type "tuple" == Value.type "tuple") = true by rfl]; simp)]
  refine wpAny_bind (listItems_at at1 dat (wpAny_bind (listItems_at (xs := #[]) (n := 0) new1 rfl ?_)))
  rw [if_neg (by simp)]
  have room : (#[] ++ vs.toArray).size ≤ sizeLine + 1 := by simp only [Array.size_append, List.size_toArray, List.length_nil]; omega
  refine wpAny_bind (listUpdate_at (xs := #[]) (n := 0) new1 rfl (wpAny_pure ?_) (Nat.zero_le _) room)
  show wpAny (model prog w) A (do
      let o ← load s.heap.objs.size
      match o.data with
      | .seq xs _ => pure xs.toList
      | _ => unsupported "internal:collect") Q Er { s with heap := gathered s.heap vs }
  refine wpAny_bind (wpAny_load (get?_update_seq new1 _) ?_)
  have e : ((#[] : Array Value) ++ vs.toArray).toList = vs := by simp
  show wpAny _ _ (pure ((#[] : Array Value) ++ vs.toArray).toList) Q Er _
  rw [e]
  exact wpAny_pure h
theorem sortedT {p : Addr} {vs : List Value} {ltv : Value → Value → Bool} {Q : Value → Shared → Prop} (O : SrtO.Swo ltv) (tup : IsTup s.heap p vs.toArray) (small : vs.length ≤ sizeLine)
    (hS : 2 ≤ vs.length → ∀ (h₁ : Heap) (a : Addr), h₁.get? a = some (seqObj "list" vs.toArray 0) → SrtO.SortableO prog w A.in1.in1 { s with heap := h₁ } a vs ltv)
    (h : ∀ out : List Value, SrtO.Srtd ltv out → SrtO.Stb ltv out vs → Q (.ref (s.heap.objs.size + 1)) { s with heap := sortedAll s.heap vs out.toArray }) : wpAny (model prog w) A (call (.builtin "sorted") [.ref p]) Q Er s := by
  have len1 : (gathered s.heap vs).objs.size = s.heap.objs.size + 1 := by rw [Heap.size_update, PyProof.Rows.size_push']
  have new2 : ((gathered s.heap vs).push (seqObj "list" vs.toArray 0)).get? (s.heap.objs.size + 1) = some (seqObj "list" vs.toArray 0) := by
    rw [← len1]
    exact Heap.get?_push_size _ rfl
  refine Calls.call_function_entry kind_sorted plain_sorted entry_sorted (args_sorted1 _) ?_
  unfold Builtin.«sorted»
  refine wpAny_bind (m := checkCount "sorted" 1 1 _) (wpAny_pure (wpAny_bind (collectT tup small (wpAny_bind (wpAny_newList ?_ small)))))
  show wpAny _ _ _ _ _ { s with heap := (gathered s.heap vs).push (seqObj "list" vs.toArray 0) }
  rw [len1]
  refine wpAny_bind (wpAny_holding (wpAny_call_entry slot_list_sort ⟨_, new2, rfl⟩ entry_list_sort
    (SrtO.list_sort_ord O new2 small (fun h2 => hS h2 _ _ new2) fun out a b => ⟨_, rfl, ?_⟩) (args_list_sort _)))
  exact wpAny_pure ⟨_, rfl, h out a b⟩
end
/-- sorted(t), t a tuple of ints -/
def rSortedTI (K : PySem.W.Frag) : List V → Hp → VK → Prop := fun vs H Q => ∃ (a : Addr) (ns : List Int), vs = [V.ref a] ∧ SqT K H a (ns.map V.int) ∧ ∀ (ms : List Int) (p : Addr), ms.Perm ns → ms.Pairwise (· ≤ ·) → H p = none → Q (.ref p) (upd H p (.lst (ms.map V.int)))
theorem cr_sortedTI {X : Cx} : CallR X (.builtin "sorted") (rSortedTI X.K) := by
  intro pins s σ H vs us Q I r h
  obtain ⟨a, ns, rfl, hs, q⟩ := h
  obtain ⟨its, rv, tup, hz⟩ := I.tuple hs
  rw [Vals.ref1 r]
  have ri := rv.ints
  refine sortedT SrtO.swo_int tup (rv.length ▸ hz) (fun h2 _ _ _ => SrtO.ints_sortable ri h2) fun out h1 h2 => ?_
  obtain ⟨k1, k2, k3⟩ := SrtO.ints_out ri h1 h2
  obtain ⟨ep, top⟩ := PyProof.Rows.sortedAll_at s.heap its out.toArray
  have small : ((out.map SrtO.iv).map V.int).length ≤ sizeLine := by
    rw [List.length_map] at hz ⊢
    rw [k2.length_eq]
    exact hz
  have laid := I.laid (t' := s.toks) (fun _ _ => PyProof.Rows.sortedAll_old) (Nat.le_succ _) (o := .lst ((out.map SrtO.iv).map V.int)) ⟨small, out, ep, vals_of_ints k1, top⟩
  exact ⟨.ref _, _, laid, rfl, q _ _ k2 k3 (I.hok.fresh (Nat.le_succ _))⟩
def isTup1 (_ : DEnv) (rs : List Rv) (_ : Sto) : Bool := match rs with
  | [.fz (.tup _)] => true
  | _ => false
def kSortT : KN := fun _ rs => match rs with
  | [.fz (.tup ds)] => opt (ints? ds) fun ns => ret (.ow (.lst ((isort leI ns).map D.int)))
  | _ => fail
def kSortedQ : KN := fun δ rs st => if isTup1 δ rs st then kSortT δ rs st else kSorted δ rs st
section
variable {C : Ctx}
theorem ok_sortT : FnK C (.builtin "sorted") kSortT := fun X ok => ⟨_, cr_sortedTI, fun W H0 F ρ δ st σ H Hs rs vs Q S R P => by
  match rs, R, P with
  | [.fz (.tup ds)], R, P =>
    obtain ⟨v, rfl, R1⟩ := R.one
    obtain ⟨ns, e2, P⟩ := opt_ok P
    obtain ⟨a, vs, rfl, h1, h2⟩ := Rep.tup_v R1
    rw [ints_eq e2] at h2
    rw [Reps.ints h2] at h1
    refine ⟨a, ns, rfl, Same.sqT S.fs h1, fun ms q hp hw nq => ?_⟩
    have e : ms = isort leI ns := sorted_uniq leI_anti (hp.trans (isort_perm leI ns).symm) (hw.imp fun h => decide_eq_true h) (isort_pw leI leI_tot leI_tr ns)
    rw [e]
    exact new_own P S (.of_ints _) q nq⟩
theorem ok_sortedQ : FnK C (.builtin "sorted") kSortedQ := ok_sortT.orS ok_sorted
end
section
variable {δ : DEnv} {st : Sto} {Q : Rv → Sto → Prop} {X : Exn → Sto → Prop}
theorem wp_sortedQ_t {ns : List Int} (h : Q (.ow (.lst ((isort leI ns).map D.int))) st) : wp (kSortedQ δ [.fz (.tup (ns.map D.int))] st) Q X := by
  show wp (opt (ints? (ns.map D.int)) (fun ns => ret (.ow (.lst ((isort leI ns).map D.int)))) st) Q X
  rw [wp_opt0, ints_map]
  exact h
theorem wp_sortedQ_l {ns : List Int} (h : Q (.ow (.lst ((isort leI ns).map D.int))) st) : wp (kSortedQ δ [.fz (.lst (ns.map D.int))] st) Q X := by
  show wp (kSorted δ [.fz (.lst (ns.map D.int))] st) Q X
  have e : isInts δ [.fz (.lst (ns.map D.int))] st = true := by
    show (ints? (ns.map D.int)).isSome = true
    rw [ints_map]; rfl
  unfold kSorted
  rw [if_pos e]
  show wp (opt (ints? (ns.map D.int)) (fun ns => ret (.ow (.lst ((isort leI ns).map D.int)))) st) Q X
  rw [wp_opt0, ints_map]
  exact h
theorem isort_asc {ns : List Int} (h : ns.Pairwise (· < ·)) : isort leI ns = ns :=
  sorted_uniq leI_anti (isort_perm leI ns) (isort_pw leI leI_tot leI_tr ns) (h.imp fun h => decide_eq_true (by omega))
end
end DL

namespace DL.k25
open PySem PySem.Spec PyProof.Rows L2 TL
set_option autoImplicit false
structure Al (K : PySem.W.Frag) (mg : Str → Option Value) : Prop where
  b_list : mg "list" = none
  b_len : mg "len" = none
  b_range : mg "range" = none
  b_tuple : mg "tuple" = none
  b_all : mg "all" = none
  b_sorted : mg "sorted" = none
  b_isinstance : mg "isinstance" = none
  b_bool : mg "bool" = none
  b_int : mg "int" = none
  b_str : mg "str" = none
  c_LETTERS : ∃ t, mg "LETTERS" = some (.str "abcdefghijklmnopqrstuvwxyz" t)
  c_MAX_ALPHABET : ∃ t, mg "MAX_ALPHABET" = some (.int (4) t)
  c_MAX_STATES : ∃ t, mg "MAX_STATES" = some (.int (4) t)
  c_DEAD : ∃ t, mg "DEAD" = some (.int (-1) t)
  d_law_bag : HD K mg "_law_bag" (top 15)
  d_law_pull : HD K mg "_law_pull" (top 16)
  d_law_of : HD K mg "_law_of" (top 17)
  d_law_pattern_plan : HD K mg "_law_pattern_plan" (top 21)
  d_is_word : HD K mg "is_word" (top 7)
  d_is_alphabet : HD K mg "is_alphabet" (top 8)
  d_law_pattern : HD K mg "_law_pattern" (top 22)
  d_join_maps : HD K mg "join_maps" (top 13)
  d_law_reads : HD K mg "_law_reads" (top 19)
  d_law_word : HD K mg "_law_word" (top 20)
  d_law_same : HD K mg "_law_same" (top 18)
  d_law_map : HD K mg "_law_map" (top 23)
  d_law_matches : HD K mg "_law_matches" (top 24)
  d_law : HD K mg "law" (top 25)
  k_Pattern : HCls K mg "Pattern"
  n_Pattern_letters : HNo K mg "Pattern" "letters"
  n_Pattern_table : HNo K mg "Pattern" "table"
  n_Pattern_ends : HNo K mg "Pattern" "ends"
  i_Pattern : HMk K mg "Pattern" "Pattern.__init__" (inClass (top 12) 0)
  m_Pattern_map_of : HMeth K mg "Pattern" "map_of" "Pattern.map_of" (inClass (top 12) 7)
  m_Pattern_matches : HMeth K mg "Pattern" "matches" "Pattern.matches" (inClass (top 12) 8)
section
variable {P : Program} {w : World} {K : PySem.W.Frag} {mg : Str → Option Value} {base : Heap}
/-! law_bag -/
abbrev s_law_bag : Stmt := (top 15)
def N_law_bag : List Str := ["_law_script", "_law_salt", "_law_cell"]
def g_law_bag_b1 : GS := (sSet 1 (gBin kMod (gBin kAdd (gBin kAdd (gBin kMul (gVar 1) (gC (.int 47119))) (gBin kMod (gVar 2) (gC (.int 2147483587)))) (gC (.int 31))) (gC (.int 2147483647))))
def g_law_bag : GS := (sSeq (sSet 1 (gC (.int 9487)))
    (sSeq (sFor (gItems (gSlice (gVar 0) gONone (gOSome (gC (.int 63))) kSl)) (tName 2) g_law_bag_b1)
    (sRet (gLst (gCons (gFn kListA (gCons (gSlice (gVar 0) gONone (gOSome (gC (.int 63))) kSl) gNil)) (gCons (gC (.int 0)) (gCons (gC (.int 0)) (gCons (gVar 1) (gCons (gC (.int 0)) gNil)))))))))
def F_law_bag : List D → M Rv := runB N_law_bag g_law_bag
theorem sc_law_bag : FnScope N_law_bag ["_law_script"] (defScope s_law_bag) := ⟨rfl, rfl, rfl, by decide +kernel, rfl, by decide +kernel, by decide +kernel⟩
theorem dg_law_bag_b1 (A : Al K mg) : DSs ⟨P, w, K, mg, base, N_law_bag, defScope s_law_bag, 0, fun _ => true, false, none⟩ (bodyOf (sAt (defBody s_law_bag) 1)) (g_law_bag_b1) :=
  (dss_one (ds_set (i := 1) rfl (Or.inl rfl) (de_bin ok_mod (de_bin ok_add (de_bin ok_add (de_bin ok_mul (de_var (i := 1) rfl (Or.inl rfl)) de_int) (de_bin ok_mod (de_var (i := 2) rfl (Or.inl rfl)) de_int)) de_int) de_int)))
theorem dg_law_bag (A : Al K mg) : DSs ⟨P, w, K, mg, base, N_law_bag, defScope s_law_bag, 0, fun _ => true, false, none⟩ (defBody s_law_bag) g_law_bag :=
  (dss_cons (ds_set (i := 1) rfl (Or.inl rfl) de_int)
    (dss_cons (ds_for (di_any (de_slice (de_var (i := 0) rfl (Or.inl rfl)) do_none (do_some de_int))) (dg_name (i := 2) rfl (Or.inl rfl)) (dg_law_bag_b1 A))
    (dss_one (ds_ret (de_lst (da_cons (de_fnT ok_listA rfl A.b_list bt_list (da_cons (de_slice (de_var (i := 0) rfl (Or.inl rfl)) do_none (do_some de_int)) da_nil)) (da_cons de_int (da_cons de_int (da_cons (de_var (i := 1) rfl (Or.inl rfl)) (da_cons de_int da_nil))))))))))
theorem ok_law_bag (A : Al K mg) : FnX P w K mg base 1 "_law_bag" 1 F_law_bag := by
  obtain ⟨fa, fd, F, h⟩ := A.d_law_bag
  exact fnxD F h sc_law_bag rfl (fun _ _ _ _ _ _ us hl => match us, hl with | [_], _ => rfl) (dg_law_bag A)
/-! law_pull -/
abbrev s_law_pull : Stmt := (top 16)
def N_law_pull : List Str := ["_law_bag_here", "_law_sides", "_law_cell", "_law_got", "_law_seed"]
def g_law_pull : GS := (sSeq (sIf (gAndT (gTB (gBin (kEq' false) (gBin kIx (gVar 0) (gC (.int 2))) (gC (.int 0)))) (gTB (gBin (kLt) (gBin kIx (gVar 0) (gC (.int 1))) (gFn kLen (gCons (gBin kIx (gVar 0) (gC (.int 0))) gNil))))) (sSeq (sSet 2 (gBin kIx (gBin kIx (gVar 0) (gC (.int 0))) (gBin kIx (gVar 0) (gC (.int 1)))))
    (sSeq (sSubC 0 (gBin kAdd (gBin kIx (gVar 0) (gC (.int 1))) (gC (.int 1))) (gC (.int 1)))
    (sIf (gTB (gBin (kGe) (gVar 2) (gBin kPow (gC (.int 10)) (gC (.int 18))))) (sSubC 0 (gVar 2) (gC (.int 2))) (sSubC 0 (gBin kMod (gBin kAdd (gBin kAdd (gBin kMul (gBin kIx (gVar 0) (gC (.int 3))) (gC (.int 38011))) (gBin kMod (gVar 2) (gC (.int 2147483579)))) (gC (.int 13))) (gC (.int 2147483647))) (gC (.int 3)))))) sNext)
    (sSeq (sIf (gTB (gBin (kGt) (gBin kIx (gVar 0) (gC (.int 2))) (gC (.int 0)))) (sSeq (sSet 3 (gBin kMod (gBin kIx (gVar 0) (gC (.int 2))) (gVar 1)))
    (sSeq (sSubC 0 (gBin kDiv (gBin kIx (gVar 0) (gC (.int 2))) (gVar 1)) (gC (.int 2)))
    (sRet (gVar 3)))) sNext)
    (sSeq (sSubC 0 (gBin kAdd (gBin kIx (gVar 0) (gC (.int 4))) (gC (.int 1))) (gC (.int 4)))
    (sSeq (sSet 4 (gBin kMod (gBin kAdd (gBin kIx (gVar 0) (gC (.int 3))) (gBin kMul (gBin kIx (gVar 0) (gC (.int 4))) (gC (.int 6907)))) (gC (.int 2147483647))))
    (sSeq (sSubC 0 (gBin kMod (gBin kAdd (gBin kAdd (gBin kPow (gVar 4) (gC (.int 3))) (gBin kMul (gC (.int 30011)) (gVar 4))) (gC (.int 2003))) (gC (.int 2147483647))) (gC (.int 3)))
    (sRet (gBin kMod (gBin kAdd (gBin kDiv (gBin kIx (gVar 0) (gC (.int 3))) (gC (.int 73))) (gBin kMul (gBin kMod (gBin kIx (gVar 0) (gC (.int 3))) (gC (.int 7879))) (gC (.int 43)))) (gVar 1))))))))
def F_law_pull : List D → M Rv := runB N_law_pull g_law_pull
theorem sc_law_pull : FnScope N_law_pull ["_law_bag_here", "_law_sides"] (defScope s_law_pull) := ⟨rfl, rfl, rfl, by decide +kernel, rfl, by decide +kernel, by decide +kernel⟩
theorem dg_law_pull (A : Al K mg) : DSs ⟨P, w, K, mg, base, N_law_pull, defScope s_law_pull, 0, fun _ => true, false, none⟩ (defBody s_law_pull) g_law_pull :=
  (dss_cons (ds_if (dt_w (dw_and (dt_cmp ok_eq' (de_ix (de_var (i := 0) rfl (Or.inl rfl)) de_int) de_int) (dw_and1 (dt_cmp ok_lt (de_ix (de_var (i := 0) rfl (Or.inl rfl)) de_int) (de_fn ok_len rfl A.b_len bt_len (da_cons (de_ix (de_var (i := 0) rfl (Or.inl rfl)) de_int) da_nil)))))) (dss_cons (ds_set (i := 2) rfl (Or.inl rfl) (de_ix (de_ix (de_var (i := 0) rfl (Or.inl rfl)) de_int) (de_ix (de_var (i := 0) rfl (Or.inl rfl)) de_int)))
    (dss_cons (ds_subC (i := 0) rfl (Or.inl rfl) (de_bin ok_add (de_ix (de_var (i := 0) rfl (Or.inl rfl)) de_int) de_int) de_int)
    (dss_one (ds_if (dt_cmp ok_ge (de_var (i := 2) rfl (Or.inl rfl)) (de_bin ok_pow de_int de_int)) (dss_one (ds_subC (i := 0) rfl (Or.inl rfl) (de_var (i := 2) rfl (Or.inl rfl)) de_int)) (dss_one (ds_subC (i := 0) rfl (Or.inl rfl) (de_bin ok_mod (de_bin ok_add (de_bin ok_add (de_bin ok_mul (de_ix (de_var (i := 0) rfl (Or.inl rfl)) de_int) de_int) (de_bin ok_mod (de_var (i := 2) rfl (Or.inl rfl)) de_int)) de_int) de_int) de_int)))))) dss_nil)
    (dss_cons (ds_if (dt_cmp ok_gt (de_ix (de_var (i := 0) rfl (Or.inl rfl)) de_int) de_int) (dss_cons (ds_set (i := 3) rfl (Or.inl rfl) (de_bin ok_mod (de_ix (de_var (i := 0) rfl (Or.inl rfl)) de_int) (de_var (i := 1) rfl (Or.inl rfl))))
    (dss_cons (ds_subC (i := 0) rfl (Or.inl rfl) (de_bin ok_div (de_ix (de_var (i := 0) rfl (Or.inl rfl)) de_int) (de_var (i := 1) rfl (Or.inl rfl))) de_int)
    (dss_one (ds_ret (de_var (i := 3) rfl (Or.inl rfl)))))) dss_nil)
    (dss_cons (ds_subC (i := 0) rfl (Or.inl rfl) (de_bin ok_add (de_ix (de_var (i := 0) rfl (Or.inl rfl)) de_int) de_int) de_int)
    (dss_cons (ds_set (i := 4) rfl (Or.inl rfl) (de_bin ok_mod (de_bin ok_add (de_ix (de_var (i := 0) rfl (Or.inl rfl)) de_int) (de_bin ok_mul (de_ix (de_var (i := 0) rfl (Or.inl rfl)) de_int) de_int)) de_int))
    (dss_cons (ds_subC (i := 0) rfl (Or.inl rfl) (de_bin ok_mod (de_bin ok_add (de_bin ok_add (de_bin ok_pow (de_var (i := 4) rfl (Or.inl rfl)) de_int) (de_bin ok_mul de_int (de_var (i := 4) rfl (Or.inl rfl)))) de_int) de_int) de_int)
    (dss_one (ds_ret (de_bin ok_mod (de_bin ok_add (de_bin ok_div (de_ix (de_var (i := 0) rfl (Or.inl rfl)) de_int) de_int) (de_bin ok_mul (de_bin ok_mod (de_ix (de_var (i := 0) rfl (Or.inl rfl)) de_int) de_int) de_int)) (de_var (i := 1) rfl (Or.inl rfl))))))))))
theorem ok_law_pull (A : Al K mg) : FnX P w K mg base 1 "_law_pull" 2 F_law_pull := by
  obtain ⟨fa, fd, F, h⟩ := A.d_law_pull
  exact fnxD F h sc_law_pull rfl (fun _ _ _ _ _ _ us hl => match us, hl with | [_, _], _ => rfl) (dg_law_pull A)
/-! law_of -/
abbrev s_law_of : Stmt := (top 17)
def N_law_of : List Str := ["_law_bag_here", "_law_some"]
def g_law_of : GS := (sRet (gBin kIx (gVar 1) (gCall 2 F_law_pull (gCons (gVar 0) (gCons (gFn kLen (gCons (gVar 1) gNil)) gNil)))))
def F_law_of : List D → M Rv := runB N_law_of g_law_of
theorem sc_law_of : FnScope N_law_of ["_law_bag_here", "_law_some"] (defScope s_law_of) := ⟨rfl, rfl, rfl, by decide +kernel, rfl, by decide +kernel, by decide +kernel⟩
theorem dg_law_of (A : Al K mg) : DSs ⟨P, w, K, mg, base, N_law_of, defScope s_law_of, 1, fun _ => true, false, none⟩ (defBody s_law_of) g_law_of :=
  (dss_one (ds_ret (de_ix (de_var (i := 1) rfl (Or.inl rfl)) (de_call ((ok_law_pull A).at (Nat.le_of_ble_eq_true rfl)) rfl (da_cons (de_var (i := 0) rfl (Or.inl rfl)) (da_cons (de_fn ok_len rfl A.b_len bt_len (da_cons (de_var (i := 1) rfl (Or.inl rfl)) da_nil)) da_nil))))))
theorem ok_law_of (A : Al K mg) : FnX P w K mg base 2 "_law_of" 2 F_law_of := by
  obtain ⟨fa, fd, F, h⟩ := A.d_law_of
  exact fnxD F h sc_law_of rfl (fun _ _ _ _ _ _ us hl => match us, hl with | [_, _], _ => rfl) (dg_law_of A)
/-! law_pattern_plan -/
abbrev s_law_pattern_plan : Stmt := (top 21)
def N_law_pattern_plan : List Str := ["_law_bag_here", "_law_letters_here", "_law_most", "_law_many", "_law_moves_here", "_law_k", "_law_sign"]
def g_law_pattern_plan : GS := (sSeq (sSet 3 (gBin kAdd (gC (.int 1)) (gCall 2 F_law_pull (gCons (gVar 0) (gCons (gVar 2) gNil)))))
    (sSeq (sSet 4 (gLc (gRange1 (gCons (gVar 3) gNil)) [5] (tName 5) gYes (gFn kTuple (gCons (gLc (gItems (gVar 1)) [6] (tName 6) gYes (gCall 2 F_law_pull (gCons (gVar 0) (gCons (gVar 3) gNil)))) gNil))))
    (sFrz [4] (sRet (gTup (gCons (gVar 1) (gCons (gVar 4) (gCons (gFn kTuple (gCons (gLc (gRange1 (gCons (gVar 3) gNil)) [5] (tName 5) (gTru (gCall 2 F_law_of (gCons (gVar 0) (gCons (gLst (gCons (gC (.bl true)) (gCons (gC (.bl false)) gNil))) gNil)))) (gVar 5)) gNil)) gNil))))))))
def F_law_pattern_plan : List D → M Rv := runB N_law_pattern_plan g_law_pattern_plan
theorem sc_law_pattern_plan : FnScope N_law_pattern_plan ["_law_bag_here", "_law_letters_here", "_law_most"] (defScope s_law_pattern_plan) := ⟨rfl, rfl, rfl, by decide +kernel, rfl, by decide +kernel, by decide +kernel⟩
theorem dg_law_pattern_plan (A : Al K mg) : DSs ⟨P, w, K, mg, base, N_law_pattern_plan, defScope s_law_pattern_plan, 2, fun _ => true, false, none⟩ (defBody s_law_pattern_plan) g_law_pattern_plan :=
  (dss_cons (ds_set (i := 3) rfl (Or.inr ⟨rfl, rfl⟩) (de_bin ok_add de_int (de_call ((ok_law_pull A).at (Nat.le_of_ble_eq_true rfl)) rfl (da_cons (de_var (i := 0) rfl (Or.inr (Or.inl rfl))) (da_cons (de_var (i := 2) rfl (Or.inl rfl)) da_nil)))))
    (dss_cons (ds_setLc (k := 4) (own := [("_law_k", 5)]) rfl rfl rfl rfl (by kernel_rfl) (di_range1 rfl A.b_range (da_cons (de_var (i := 3) rfl (Or.inr (Or.inl rfl))) da_nil)) (by kernel_rfl) (dg_name (i := 5) rfl (Or.inl rfl)) dts_nil (de_fnT ok_tuple rfl A.b_tuple bt_tuple (da_cons (de_lc (own := [("_law_sign", 6)]) (di_any (de_var (i := 1) rfl (Or.inr (Or.inl rfl)))) (by kernel_rfl) (dg_name (i := 6) rfl (Or.inl rfl)) dts_nil (de_call ((ok_law_pull A).at (Nat.le_of_ble_eq_true rfl)) rfl (da_cons (de_var (i := 0) rfl (Or.inr (Or.inl rfl))) (da_cons (de_var (i := 3) rfl (Or.inr (Or.inl rfl))) da_nil)))) da_nil)))
    (dss_one (ds_frz [4] (ds_ret (de_tup (da_cons (de_var (i := 1) rfl (Or.inr (Or.inl rfl))) (da_cons (de_var (i := 4) rfl (Or.inl rfl)) (da_cons (de_fnT ok_tuple rfl A.b_tuple bt_tuple (da_cons (de_lc (own := [("_law_k", 5)]) (di_range1 rfl A.b_range (da_cons (de_var (i := 3) rfl (Or.inr (Or.inl rfl))) da_nil)) (by kernel_rfl) (dg_name (i := 5) rfl (Or.inl rfl)) (dts_one (dt_tru (de_call ((ok_law_of A).at (Nat.le_of_ble_eq_true rfl)) rfl (da_cons (de_var (i := 0) rfl (Or.inr (Or.inl rfl))) (da_cons (de_lst (da_cons de_bl (da_cons de_bl da_nil))) da_nil))))) (de_var (i := 5) rfl (Or.inl rfl))) da_nil)) da_nil)))))))))
theorem ok_law_pattern_plan (A : Al K mg) : FnX P w K mg base 3 "_law_pattern_plan" 3 F_law_pattern_plan := by
  obtain ⟨fa, fd, F, h⟩ := A.d_law_pattern_plan
  exact fnxD F h sc_law_pattern_plan rfl (fun _ _ _ _ _ _ us hl => match us, hl with | [_, _, _], _ => rfl) (dg_law_pattern_plan A)
/-! is_word -/
abbrev s_is_word : Stmt := (top 7)
def N_is_word : List Str := ["text", "sign"]
def g_is_word : GS := (sRet (gFn kAll (gCons (gLc (gItems (gVar 0)) [1] (tName 1) gYes (gBin (kIn false) (gVar 1) (gC (.str [97, 98, 99, 100, 101, 102, 103, 104, 105, 106, 107, 108, 109, 110, 111, 112, 113, 114, 115, 116, 117, 118, 119, 120, 121, 122])))) gNil)))
def F_is_word : List D → M Rv := runB N_is_word g_is_word
theorem sc_is_word : FnScope N_is_word ["text"] (defScope s_is_word) := ⟨rfl, rfl, rfl, by decide +kernel, rfl, by decide +kernel, by decide +kernel⟩
theorem dg_is_word (A : Al K mg) : DSs ⟨P, w, K, mg, base, N_is_word, defScope s_is_word, 0, fun _ => true, false, none⟩ (defBody s_is_word) g_is_word :=
  (dss_one (ds_ret (de_fn ok_all rfl A.b_all bt_all (da_cons (de_lc (own := [("sign", 1)]) (di_any (de_var (i := 0) rfl (Or.inl rfl))) (by kernel_rfl) (dg_name (i := 1) rfl (Or.inl rfl)) dts_nil (de_cmp ok_in (de_var (i := 1) rfl (Or.inl rfl)) (de_gstr rfl A.c_LETTERS))) da_nil))))
theorem ok_is_word (A : Al K mg) : FnX P w K mg base 1 "is_word" 1 F_is_word := by
  obtain ⟨fa, fd, F, h⟩ := A.d_is_word
  exact fnxD F h sc_is_word rfl (fun _ _ _ _ _ _ us hl => match us, hl with | [_], _ => rfl) (dg_is_word A)
/-! is_alphabet -/
abbrev s_is_alphabet : Stmt := (top 8)
def N_is_alphabet : List Str := ["text", "at"]
def g_is_alphabet : GS := (sSeq (sIf (gOrT (gNotT (gTB (gChain (kLe) (kLe) (gC (.int 1)) (gFn kLen (gCons (gVar 0) gNil)) (gC (.int 4))))) (gNotT (gTru (gCall 1 F_is_word (gCons (gVar 0) gNil))))) (sRet (gC (.bl false))) sNext)
    (sRet (gFn kAll (gCons (gLc (gRange1 (gCons (gBin kSub (gFn kLen (gCons (gVar 0) gNil)) (gC (.int 1))) gNil)) [1] (tName 1) gYes (gBin (kLt) (gBin kIx (gVar 0) (gVar 1)) (gBin kIx (gVar 0) (gBin kAdd (gVar 1) (gC (.int 1)))))) gNil))))
def F_is_alphabet : List D → M Rv := runB N_is_alphabet g_is_alphabet
theorem sc_is_alphabet : FnScope N_is_alphabet ["text"] (defScope s_is_alphabet) := ⟨rfl, rfl, rfl, by decide +kernel, rfl, by decide +kernel, by decide +kernel⟩
theorem dg_is_alphabet (A : Al K mg) : DSs ⟨P, w, K, mg, base, N_is_alphabet, defScope s_is_alphabet, 1, fun _ => true, false, none⟩ (defBody s_is_alphabet) g_is_alphabet :=
  (dss_cons (ds_if (dt_w (dw_or (dt_not (dt_chain ok_le ok_le de_int (de_fn ok_len rfl A.b_len bt_len (da_cons (de_var (i := 0) rfl (Or.inr (Or.inl rfl))) da_nil)) (de_gint rfl A.c_MAX_ALPHABET))) (dw_or1 (dt_not (dt_tru (de_call ((ok_is_word A).at (Nat.le_of_ble_eq_true rfl)) rfl (da_cons (de_var (i := 0) rfl (Or.inr (Or.inl rfl))) da_nil))))))) (dss_one (ds_ret de_bl)) dss_nil)
    (dss_one (ds_ret (de_fn ok_all rfl A.b_all bt_all (da_cons (de_lc (own := [("at", 1)]) (di_range1 rfl A.b_range (da_cons (de_bin ok_sub (de_fn ok_len rfl A.b_len bt_len (da_cons (de_var (i := 0) rfl (Or.inr (Or.inl rfl))) da_nil)) de_int) da_nil)) (by kernel_rfl) (dg_name (i := 1) rfl (Or.inl rfl)) dts_nil (de_cmp ok_lt (de_ix (de_var (i := 0) rfl (Or.inr (Or.inl rfl))) (de_var (i := 1) rfl (Or.inl rfl))) (de_ix (de_var (i := 0) rfl (Or.inr (Or.inl rfl))) (de_bin ok_add (de_var (i := 1) rfl (Or.inl rfl)) de_int)))) da_nil)))))
theorem ok_is_alphabet (A : Al K mg) : FnX P w K mg base 2 "is_alphabet" 1 F_is_alphabet := by
  obtain ⟨fa, fd, F, h⟩ := A.d_is_alphabet
  exact fnxD F h sc_is_alphabet rfl (fun _ _ _ _ _ _ us hl => match us, hl with | [_], _ => rfl) (dg_is_alphabet A)
/-! Pattern___init__ -/
abbrev s_Pattern___init__ : Stmt := (inClass (top 12) 0)
def N_Pattern___init__ : List Str := ["self", "letters", "moves", "good", "states", "row", "state"]
def g_Pattern___init___b1 : GS := (sIf (gOrT (gTB (gBin (kEq' true) (gFn kLen (gCons (gVar 5) gNil)) (gFn kLen (gCons (gVar 1) gNil)))) (gNotT (gTru (gFn kAll (gCons (gLc (gItems (gVar 5)) [6] (tName 6) gYes (gChain (kLe) (kLt) (gC (.int 0)) (gVar 6) (gVar 4))) gNil))))) sNev sNext)
def g_Pattern___init__ : GS := (sSeq (sSet 4 (gFn kLen (gCons (gVar 2) gNil)))
    (sSeq (sIf (gOrT (gNotT (gTru (gCall 1 F_is_alphabet (gCons (gVar 1) gNil)))) (gNotT (gTB (gChain (kLe) (kLe) (gC (.int 1)) (gVar 4) (gC (.int 4)))))) sNev sNext)
    (sSeq (sFor (gItems (gVar 2)) (tName 5) g_Pattern___init___b1)
    (sSeq (sIf (gOrT (gTB (gBin (kEq' true) (gFn kListA (gCons (gVar 3) gNil)) (gFn kSortedQ (gCons (gVar 3) gNil)))) (gTB (gBin (kEq' true) (gLenSc (gItems (gVar 3)) [6] (tName 6) gYes (gVar 6)) (gFn kLen (gCons (gVar 3) gNil))))) sNev sNext)
    (sSeq (sIf (gNotT (gTru (gFn kAll (gCons (gLc (gItems (gVar 3)) [6] (tName 6) gYes (gChain (kLe) (kLt) (gC (.int 0)) (gVar 6) (gVar 4))) gNil)))) sNev sNext)
    (sSeq (sAttr "Pattern" "letters" (gVar 0) (gVar 1))
    (sSeq (sAttr "Pattern" "table" (gVar 0) (gLc (gItems (gVar 2)) [5] (tName 5) gYes (gFn kTuple (gCons (gVar 5) gNil))))
    (sAttr "Pattern" "ends" (gVar 0) (gFn kTuple (gCons (gVar 3) gNil))))))))))
def F_Pattern___init__ : List D → M Rv := runB N_Pattern___init__ g_Pattern___init__
theorem sc_Pattern___init__ : FnScope N_Pattern___init__ ["self", "letters", "moves", "good"] (defScope s_Pattern___init__) := ⟨rfl, rfl, rfl, by decide +kernel, rfl, by decide +kernel, by decide +kernel⟩
theorem dg_Pattern___init___b1 (A : Al K mg) : DSs ⟨P, w, K, mg, base, N_Pattern___init__, defScope s_Pattern___init__, 2, fun _ => true, false, none⟩ (bodyOf (sAt (defBody s_Pattern___init__) 2)) (g_Pattern___init___b1) :=
  (dss_one (ds_if (dt_w (dw_or (dt_cmp ok_ne' (de_fn ok_len rfl A.b_len bt_len (da_cons (de_var (i := 5) rfl (Or.inl rfl)) da_nil)) (de_fn ok_len rfl A.b_len bt_len (da_cons (de_var (i := 1) rfl (Or.inl rfl)) da_nil))) (dw_or1 (dt_not (dt_tru (de_fn ok_all rfl A.b_all bt_all (da_cons (de_lc (own := [("state", 6)]) (di_any (de_var (i := 5) rfl (Or.inl rfl))) (by kernel_rfl) (dg_name (i := 6) rfl (Or.inl rfl)) dts_nil (de_chain ok_le ok_lt de_int (de_var (i := 6) rfl (Or.inl rfl)) (de_var (i := 4) rfl (Or.inr (Or.inl rfl))))) da_nil))))))) (dss_one ds_nev) dss_nil))
theorem dg_Pattern___init__ (A : Al K mg) : DSs ⟨P, w, K, mg, base, N_Pattern___init__, defScope s_Pattern___init__, 2, fun _ => true, false, none⟩ (defBody s_Pattern___init__) g_Pattern___init__ :=
  (dss_cons (ds_set (i := 4) rfl (Or.inr ⟨rfl, rfl⟩) (de_fn ok_len rfl A.b_len bt_len (da_cons (de_var (i := 2) rfl (Or.inl rfl)) da_nil)))
    (dss_cons (ds_if (dt_w (dw_or (dt_not (dt_tru (de_call ((ok_is_alphabet A).at (Nat.le_of_ble_eq_true rfl)) rfl (da_cons (de_var (i := 1) rfl (Or.inl rfl)) da_nil)))) (dw_or1 (dt_not (dt_chain ok_le ok_le de_int (de_var (i := 4) rfl (Or.inr (Or.inl rfl))) (de_gint rfl A.c_MAX_STATES)))))) (dss_one ds_nev) dss_nil)
    (dss_cons (ds_for (di_any (de_var (i := 2) rfl (Or.inl rfl))) (dg_name (i := 5) rfl (Or.inl rfl)) (dg_Pattern___init___b1 A))
    (dss_cons (ds_if (dt_w (dw_or (dt_cmp ok_ne' (de_fnT ok_listA rfl A.b_list bt_list (da_cons (de_var (i := 3) rfl (Or.inl rfl)) da_nil)) (de_fn ok_sortedQ rfl A.b_sorted bt_sorted (da_cons (de_var (i := 3) rfl (Or.inl rfl)) da_nil))) (dw_or1 (dt_cmp ok_ne' (de_lenSc (own := [("state", 6)]) rfl A.b_len (di_any (de_var (i := 3) rfl (Or.inl rfl))) (by kernel_rfl) (dg_name (i := 6) rfl (Or.inl rfl)) dts_nil (de_var (i := 6) rfl (Or.inl rfl))) (de_fn ok_len rfl A.b_len bt_len (da_cons (de_var (i := 3) rfl (Or.inl rfl)) da_nil)))))) (dss_one ds_nev) dss_nil)
    (dss_cons (ds_if (dt_not (dt_tru (de_fn ok_all rfl A.b_all bt_all (da_cons (de_lc (own := [("state", 6)]) (di_any (de_var (i := 3) rfl (Or.inl rfl))) (by kernel_rfl) (dg_name (i := 6) rfl (Or.inl rfl)) dts_nil (de_chain ok_le ok_lt de_int (de_var (i := 6) rfl (Or.inl rfl)) (de_var (i := 4) rfl (Or.inr (Or.inl rfl))))) da_nil)))) (dss_one ds_nev) dss_nil)
    (dss_cons (ds_attr A.k_Pattern.f A.n_Pattern_letters.f (de_var (i := 0) rfl (Or.inl rfl)) (de_var (i := 1) rfl (Or.inl rfl)))
    (dss_cons (ds_attr A.k_Pattern.f A.n_Pattern_table.f (de_var (i := 0) rfl (Or.inl rfl)) (de_lc (own := [("row", 5)]) (di_any (de_var (i := 2) rfl (Or.inl rfl))) (by kernel_rfl) (dg_name (i := 5) rfl (Or.inl rfl)) dts_nil (de_fnT ok_tuple rfl A.b_tuple bt_tuple (da_cons (de_var (i := 5) rfl (Or.inl rfl)) da_nil))))
    (dss_one (ds_attr A.k_Pattern.f A.n_Pattern_ends.f (de_var (i := 0) rfl (Or.inl rfl)) (de_fnT ok_tuple rfl A.b_tuple bt_tuple (da_cons (de_var (i := 3) rfl (Or.inl rfl)) da_nil)))))))))))
theorem ok_Pattern___init__ (A : Al K mg) : FnKX P w K mg base 3 "Pattern" 3 F_Pattern___init__ := fnkx A.i_Pattern sc_Pattern___init__ rfl (fun _ _ _ _ _ _ us hl => match us, hl with | [_, _, _, _], _ => rfl) (dg_Pattern___init__ A)
/-! law_pattern -/
abbrev s_law_pattern : Stmt := (top 22)
def N_law_pattern : List Str := ["_law_sketch"]
def g_law_pattern : GS := (sRet (gMakeZ "Pattern" 3 F_Pattern___init__ (gCons (gBin kIx (gVar 0) (gC (.int 0))) (gCons (gBin kIx (gVar 0) (gC (.int 1))) (gCons (gBin kIx (gVar 0) (gC (.int 2))) gNil)))))
def F_law_pattern : List D → M Rv := runB N_law_pattern g_law_pattern
theorem sc_law_pattern : FnScope N_law_pattern ["_law_sketch"] (defScope s_law_pattern) := ⟨rfl, rfl, rfl, by decide +kernel, rfl, by decide +kernel, by decide +kernel⟩
theorem dg_law_pattern (A : Al K mg) : DSs ⟨P, w, K, mg, base, N_law_pattern, defScope s_law_pattern, 4, fun _ => true, false, none⟩ (defBody s_law_pattern) g_law_pattern :=
  (dss_one (ds_ret (de_makeZ ((ok_Pattern___init__ A).at (Nat.le_of_ble_eq_true rfl)) rfl (da_cons (de_ix (de_var (i := 0) rfl (Or.inl rfl)) de_int) (da_cons (de_ix (de_var (i := 0) rfl (Or.inl rfl)) de_int) (da_cons (de_ix (de_var (i := 0) rfl (Or.inl rfl)) de_int) da_nil))))))
theorem ok_law_pattern (A : Al K mg) : FnX P w K mg base 5 "_law_pattern" 1 F_law_pattern := by
  obtain ⟨fa, fd, F, h⟩ := A.d_law_pattern
  exact fnxD F h sc_law_pattern rfl (fun _ _ _ _ _ _ us hl => match us, hl with | [_], _ => rfl) (dg_law_pattern A)
/-! join_maps -/
abbrev s_join_maps : Stmt := (top 13)
def N_join_maps : List Str := ["first", "second", "state"]
def g_join_maps : GS := (sRet (gFn kTuple (gCons (gLc (gItems (gVar 0)) [2] (tName 2) gYes (gIf (gTB (gBin (kEq' false) (gVar 2) (gC (.int (-1))))) (gC (.int (-1))) (gBin kIx (gVar 1) (gVar 2)))) gNil)))
def F_join_maps : List D → M Rv := runB N_join_maps g_join_maps
theorem sc_join_maps : FnScope N_join_maps ["first", "second"] (defScope s_join_maps) := ⟨rfl, rfl, rfl, by decide +kernel, rfl, by decide +kernel, by decide +kernel⟩
theorem dg_join_maps (A : Al K mg) : DSs ⟨P, w, K, mg, base, N_join_maps, defScope s_join_maps, 0, fun _ => true, false, none⟩ (defBody s_join_maps) g_join_maps :=
  (dss_one (ds_ret (de_fnT ok_tuple rfl A.b_tuple bt_tuple (da_cons (de_lc (own := [("state", 2)]) (di_any (de_var (i := 0) rfl (Or.inl rfl))) (by kernel_rfl) (dg_name (i := 2) rfl (Or.inl rfl)) dts_nil (de_if (dt_cmp ok_eq' (de_var (i := 2) rfl (Or.inl rfl)) (de_gint rfl A.c_DEAD)) (de_gint rfl A.c_DEAD) (de_ix (de_var (i := 1) rfl (Or.inr (Or.inl rfl))) (de_var (i := 2) rfl (Or.inl rfl))))) da_nil))))
theorem ok_join_maps (A : Al K mg) : FnX P w K mg base 1 "join_maps" 2 F_join_maps := by
  obtain ⟨fa, fd, F, h⟩ := A.d_join_maps
  exact fnxD F h sc_join_maps rfl (fun _ _ _ _ _ _ us hl => match us, hl with | [_, _], _ => rfl) (dg_join_maps A)
/-! law_reads -/
abbrev s_law_reads : Stmt := (top 19)
def N_law_reads : List Str := ["_law_bag_here", "_law_most", "_law_found", "_law_at", "_law_k"]
def g_law_reads_b1 : GS := (sSeq (sSet 2 (gBin kAdd (gVar 2) (gBin kIx (gC (.str [97, 98, 99, 100, 101, 102, 103, 104, 105, 106, 107, 108, 109, 110, 111, 112, 113, 114, 115, 116, 117, 118, 119, 120, 121, 122])) (gVar 3))))
    (sSet 3 (gBin kAdd (gBin kAdd (gVar 3) (gC (.int 1))) (gCall 2 F_law_pull (gCons (gVar 0) (gCons (gC (.int 5)) gNil))))))
def g_law_reads : GS := (sSeq (sMany [(2, (gC (.str []))), (3, (gCall 2 F_law_pull (gCons (gVar 0) (gCons (gC (.int 9)) gNil))))])
    (sSeq (sFor (gRange1 (gCons (gBin kAdd (gC (.int 1)) (gCall 2 F_law_pull (gCons (gVar 0) (gCons (gVar 1) gNil)))) gNil)) (tName 4) g_law_reads_b1)
    (sRet (gVar 2))))
def F_law_reads : List D → M Rv := runB N_law_reads g_law_reads
theorem sc_law_reads : FnScope N_law_reads ["_law_bag_here", "_law_most"] (defScope s_law_reads) := ⟨rfl, rfl, rfl, by decide +kernel, rfl, by decide +kernel, by decide +kernel⟩
theorem dg_law_reads_b1 (A : Al K mg) : DSs ⟨P, w, K, mg, base, N_law_reads, defScope s_law_reads, 1, fun _ => true, false, none⟩ (bodyOf (sAt (defBody s_law_reads) 1)) (g_law_reads_b1) :=
  (dss_cons (ds_set (i := 2) rfl (Or.inl rfl) (de_bin ok_add (de_var (i := 2) rfl (Or.inl rfl)) (de_ix de_str (de_var (i := 3) rfl (Or.inl rfl)))))
    (dss_one (ds_set (i := 3) rfl (Or.inl rfl) (de_bin ok_add (de_bin ok_add (de_var (i := 3) rfl (Or.inl rfl)) de_int) (de_call ((ok_law_pull A).at (Nat.le_of_ble_eq_true rfl)) rfl (da_cons (de_var (i := 0) rfl (Or.inl rfl)) (da_cons de_int da_nil)))))))
theorem dg_law_reads (A : Al K mg) : DSs ⟨P, w, K, mg, base, N_law_reads, defScope s_law_reads, 1, fun _ => true, false, none⟩ (defBody s_law_reads) g_law_reads :=
  (dss_cons (ds_many2 (i := 2) (j := 3) rfl rfl rfl rfl rfl (DMany.cons de_str (DMany.cons (de_call ((ok_law_pull A).at (Nat.le_of_ble_eq_true rfl)) rfl (da_cons (de_var (i := 0) rfl (Or.inl rfl)) (da_cons de_int da_nil))) DMany.nil)))
    (dss_cons (ds_for (di_range1 rfl A.b_range (da_cons (de_bin ok_add de_int (de_call ((ok_law_pull A).at (Nat.le_of_ble_eq_true rfl)) rfl (da_cons (de_var (i := 0) rfl (Or.inl rfl)) (da_cons (de_var (i := 1) rfl (Or.inl rfl)) da_nil)))) da_nil)) (dg_name (i := 4) rfl (Or.inl rfl)) (dg_law_reads_b1 A))
    (dss_one (ds_ret (de_var (i := 2) rfl (Or.inl rfl))))))
theorem ok_law_reads (A : Al K mg) : FnX P w K mg base 2 "_law_reads" 2 F_law_reads := by
  obtain ⟨fa, fd, F, h⟩ := A.d_law_reads
  exact fnxD F h sc_law_reads rfl (fun _ _ _ _ _ _ us hl => match us, hl with | [_, _], _ => rfl) (dg_law_reads A)
/-! law_word -/
abbrev s_law_word : Stmt := (top 20)
def N_law_word : List Str := ["_law_bag_here", "_law_ink", "_law_most", "_law_k"]
def g_law_word : GS := (sRet (gJoin (gC (.str [])) (gLc (gRange1 (gCons (gCall 2 F_law_pull (gCons (gVar 0) (gCons (gBin kAdd (gVar 2) (gC (.int 1))) gNil))) gNil)) [3] (tName 3) gYes (gCall 2 F_law_of (gCons (gVar 0) (gCons (gVar 1) gNil))))))
def F_law_word : List D → M Rv := runB N_law_word g_law_word
theorem sc_law_word : FnScope N_law_word ["_law_bag_here", "_law_ink", "_law_most"] (defScope s_law_word) := ⟨rfl, rfl, rfl, by decide +kernel, rfl, by decide +kernel, by decide +kernel⟩
theorem dg_law_word (A : Al K mg) : DSs ⟨P, w, K, mg, base, N_law_word, defScope s_law_word, 2, fun _ => true, false, none⟩ (defBody s_law_word) g_law_word :=
  (dss_one (ds_ret (de_join de_str (de_lc (own := [("_law_k", 3)]) (di_range1 rfl A.b_range (da_cons (de_call ((ok_law_pull A).at (Nat.le_of_ble_eq_true rfl)) rfl (da_cons (de_var (i := 0) rfl (Or.inr (Or.inl rfl))) (da_cons (de_bin ok_add (de_var (i := 2) rfl (Or.inl rfl)) de_int) da_nil))) da_nil)) (by kernel_rfl) (dg_name (i := 3) rfl (Or.inl rfl)) dts_nil (de_call ((ok_law_of A).at (Nat.le_of_ble_eq_true rfl)) rfl (da_cons (de_var (i := 0) rfl (Or.inr (Or.inl rfl))) (da_cons (de_var (i := 1) rfl (Or.inr (Or.inl rfl))) da_nil)))))))
theorem ok_law_word (A : Al K mg) : FnX P w K mg base 3 "_law_word" 3 F_law_word := by
  obtain ⟨fa, fd, F, h⟩ := A.d_law_word
  exact fnxD F h sc_law_word rfl (fun _ _ _ _ _ _ us hl => match us, hl with | [_, _, _], _ => rfl) (dg_law_word A)
/-! law_same -/
abbrev s_law_same : Stmt := (top 18)
def N_law_same : List Str := ["_law_found", "_law_due", "_law_k"]
def g_law_same (FF : List D → M Rv) : GS := (sSeq (sIf (gTru (gFn kIsi (gCons (gVar 1) (gCons (gTup (gCons (gC (.ty "list")) (gCons (gC (.ty "tuple")) gNil))) gNil)))) (sSeq (sIf (gOrT (gTB (gBin (kEq' true) (gFn kIsi (gCons (gVar 0) (gCons (gC (.ty "list")) gNil))) (gFn kIsi (gCons (gVar 1) (gCons (gC (.ty "list")) gNil))))) (gTB (gBin (kEq' true) (gFn kIsi (gCons (gVar 0) (gCons (gC (.ty "tuple")) gNil))) (gFn kIsi (gCons (gVar 1) (gCons (gC (.ty "tuple")) gNil)))))) (sRet (gC (.bl false))) sNext)
    (sRet (gAndV (gBin (kEq' false) (gFn kLen (gCons (gVar 0) gNil)) (gFn kLen (gCons (gVar 1) gNil))) (gFn kAll (gCons (gLc (gRange1 (gCons (gFn kLen (gCons (gVar 1) gNil)) gNil)) [2] (tName 2) gYes (gCall 2 FF (gCons (gBin kIx (gVar 0) (gVar 2)) (gCons (gBin kIx (gVar 1) (gVar 2)) gNil)))) gNil))))) sNext)
    (sSeq (sIf (gOrT (gTB (gBin (kIs false) (gVar 1) (gC .non))) (gTB (gBin (kIs false) (gVar 0) (gC .non)))) (sRet (gAndV (gBin (kIs false) (gVar 0) (gC .non)) (gBin (kIs false) (gVar 1) (gC .non)))) sNext)
    (sSeq (sIf (gOrT (gTB (gBin (kEq' true) (gFn kIsi (gCons (gVar 1) (gCons (gC (.ty "bool")) gNil))) (gFn kIsi (gCons (gVar 0) (gCons (gC (.ty "bool")) gNil))))) (gTB (gBin (kEq' true) (gFn kIsi (gCons (gVar 1) (gCons (gC (.ty "int")) gNil))) (gFn kIsi (gCons (gVar 0) (gCons (gC (.ty "int")) gNil)))))) (sRet (gC (.bl false))) sNext)
    (sRet (gAndV (gBin (kEq' false) (gFn kIsi (gCons (gVar 1) (gCons (gC (.ty "str")) gNil))) (gFn kIsi (gCons (gVar 0) (gCons (gC (.ty "str")) gNil)))) (gBin (kEq' false) (gVar 0) (gVar 1)))))))
def F_law_same : Nat → List D → M Rv
  | 0 => fun _ => fail
  | n + 1 => runB N_law_same (g_law_same (F_law_same n))
theorem sc_law_same : FnScope N_law_same ["_law_found", "_law_due"] (defScope s_law_same) := ⟨rfl, rfl, rfl, by decide +kernel, rfl, by decide +kernel, by decide +kernel⟩
theorem dg_law_same (A : Al K mg) {m : Nat} {FF : List D → M Rv} (hr : FnX P w K mg base (0 + m + 1) "_law_same" 2 FF) : DSs ⟨P, w, K, mg, base, N_law_same, defScope s_law_same, (0 + m + 1), fun _ => true, false, none⟩ (defBody s_law_same) (g_law_same FF) :=
  (dss_cons (ds_if (dt_tru (de_fn ok_isi rfl A.b_isinstance bt_isinstance (da_cons (de_var (i := 1) rfl (Or.inr (Or.inl rfl))) (da_cons (de_tup (da_cons (de_ty rfl A.b_list bt_list) (da_cons (de_ty rfl A.b_tuple bt_tuple) da_nil))) da_nil)))) (dss_cons (ds_if (dt_w (dw_or (dt_cmp ok_ne' (de_fn ok_isi rfl A.b_isinstance bt_isinstance (da_cons (de_var (i := 0) rfl (Or.inr (Or.inl rfl))) (da_cons (de_ty rfl A.b_list bt_list) da_nil))) (de_fn ok_isi rfl A.b_isinstance bt_isinstance (da_cons (de_var (i := 1) rfl (Or.inr (Or.inl rfl))) (da_cons (de_ty rfl A.b_list bt_list) da_nil)))) (dw_or1 (dt_cmp ok_ne' (de_fn ok_isi rfl A.b_isinstance bt_isinstance (da_cons (de_var (i := 0) rfl (Or.inr (Or.inl rfl))) (da_cons (de_ty rfl A.b_tuple bt_tuple) da_nil))) (de_fn ok_isi rfl A.b_isinstance bt_isinstance (da_cons (de_var (i := 1) rfl (Or.inr (Or.inl rfl))) (da_cons (de_ty rfl A.b_tuple bt_tuple) da_nil))))))) (dss_one (ds_ret de_bl)) dss_nil)
    (dss_one (ds_ret (de_and (de_cmp ok_eq' (de_fn ok_len rfl A.b_len bt_len (da_cons (de_var (i := 0) rfl (Or.inr (Or.inl rfl))) da_nil)) (de_fn ok_len rfl A.b_len bt_len (da_cons (de_var (i := 1) rfl (Or.inr (Or.inl rfl))) da_nil))) (de_one (de_fn ok_all rfl A.b_all bt_all (da_cons (de_lc (own := [("_law_k", 2)]) (di_range1 rfl A.b_range (da_cons (de_fn ok_len rfl A.b_len bt_len (da_cons (de_var (i := 1) rfl (Or.inr (Or.inl rfl))) da_nil)) da_nil)) (by kernel_rfl) (dg_name (i := 2) rfl (Or.inl rfl)) dts_nil (de_call (hr.at (Nat.le_refl _)) rfl (da_cons (de_ix (de_var (i := 0) rfl (Or.inr (Or.inl rfl))) (de_var (i := 2) rfl (Or.inl rfl))) (da_cons (de_ix (de_var (i := 1) rfl (Or.inr (Or.inl rfl))) (de_var (i := 2) rfl (Or.inl rfl))) da_nil)))) da_nil))))))) dss_nil)
    (dss_cons (ds_if (dt_w (dw_or (dt_cmp ok_is (de_var (i := 1) rfl (Or.inr (Or.inl rfl))) de_non) (dw_or1 (dt_cmp ok_is (de_var (i := 0) rfl (Or.inr (Or.inl rfl))) de_non)))) (dss_one (ds_ret (de_and (de_cmp ok_is (de_var (i := 0) rfl (Or.inr (Or.inl rfl))) de_non) (de_one (de_cmp ok_is (de_var (i := 1) rfl (Or.inr (Or.inl rfl))) de_non))))) dss_nil)
    (dss_cons (ds_if (dt_w (dw_or (dt_cmp ok_ne' (de_fn ok_isi rfl A.b_isinstance bt_isinstance (da_cons (de_var (i := 1) rfl (Or.inr (Or.inl rfl))) (da_cons (de_ty rfl A.b_bool bt_bool) da_nil))) (de_fn ok_isi rfl A.b_isinstance bt_isinstance (da_cons (de_var (i := 0) rfl (Or.inr (Or.inl rfl))) (da_cons (de_ty rfl A.b_bool bt_bool) da_nil)))) (dw_or1 (dt_cmp ok_ne' (de_fn ok_isi rfl A.b_isinstance bt_isinstance (da_cons (de_var (i := 1) rfl (Or.inr (Or.inl rfl))) (da_cons (de_ty rfl A.b_int bt_int) da_nil))) (de_fn ok_isi rfl A.b_isinstance bt_isinstance (da_cons (de_var (i := 0) rfl (Or.inr (Or.inl rfl))) (da_cons (de_ty rfl A.b_int bt_int) da_nil))))))) (dss_one (ds_ret de_bl)) dss_nil)
    (dss_one (ds_ret (de_and (de_cmp ok_eq' (de_fn ok_isi rfl A.b_isinstance bt_isinstance (da_cons (de_var (i := 1) rfl (Or.inr (Or.inl rfl))) (da_cons (de_ty rfl A.b_str bt_str) da_nil))) (de_fn ok_isi rfl A.b_isinstance bt_isinstance (da_cons (de_var (i := 0) rfl (Or.inr (Or.inl rfl))) (da_cons (de_ty rfl A.b_str bt_str) da_nil)))) (de_one (de_cmp ok_eq' (de_var (i := 0) rfl (Or.inr (Or.inl rfl))) (de_var (i := 1) rfl (Or.inr (Or.inl rfl)))))))))))
theorem ok_law_same_r (A : Al K mg) : ∀ n : Nat, FnX P w K mg base (0 + n + 1) "_law_same" 2 (F_law_same n)
  | 0 => (by obtain ⟨fa, fd, F, h⟩ := A.d_law_same; exact (fnx0 F h sc_law_same rfl (fun _ _ _ _ _ _ us hl => match us, hl with | [_, _], _ => rfl)).up (by omega))
  | n + 1 => (by obtain ⟨fa, fd, F, h⟩ := A.d_law_same; exact fnxD F h sc_law_same rfl (fun _ _ _ _ _ _ us hl => match us, hl with | [_, _], _ => rfl) (dg_law_same A (ok_law_same_r A n)))
theorem ok_law_same (A : Al K mg) : FnX P w K mg base 9 "_law_same" 2 (F_law_same 8) := ok_law_same_r A 8
/-! Pattern_map_of -/
abbrev s_Pattern_map_of : Stmt := (inClass (top 12) 7)
def N_Pattern_map_of : List Str := ["self", "word", "found", "letter", "at", "state"]
def g_Pattern_map_of_b1 : GS := (sSeq (sSet 4 (gIf (gTB (gBin (kIn false) (gVar 3) (gAttr "Pattern" "letters" (gVar 0)))) (gSIx (gAttr "Pattern" "letters" (gVar 0)) (gCons (gVar 3) gNil)) (gC (.int (-1)))))
    (sFrz [2, 4] (sSet 2 (gLc (gItems (gVar 2)) [5] (tName 5) gYes (gIf (gTB (gBin (kIn false) (gC (.int (-1))) (gTup (gCons (gVar 5) (gCons (gVar 4) gNil))))) (gC (.int (-1))) (gBin kIx (gBin kIx (gAttr "Pattern" "table" (gVar 0)) (gVar 5)) (gVar 4)))))))
def g_Pattern_map_of : GS := (sSeq (sSet 2 (gLstR1 (gFn kLen (gCons (gAttr "Pattern" "table" (gVar 0)) gNil))))
    (sSeq (sFor (gItems (gVar 1)) (tName 3) g_Pattern_map_of_b1)
    (sRet (gFn kTuple (gCons (gVar 2) gNil)))))
def F_Pattern_map_of : List D → M Rv := runB N_Pattern_map_of g_Pattern_map_of
theorem sc_Pattern_map_of : FnScope N_Pattern_map_of ["self", "word"] (defScope s_Pattern_map_of) := ⟨rfl, rfl, rfl, by decide +kernel, rfl, by decide +kernel, by decide +kernel⟩
theorem dg_Pattern_map_of_b1 (A : Al K mg) : DSs ⟨P, w, K, mg, base, N_Pattern_map_of, defScope s_Pattern_map_of, 0, fun _ => true, false, none⟩ (bodyOf (sAt (defBody s_Pattern_map_of) 1)) (g_Pattern_map_of_b1) :=
  (dss_cons (ds_set (i := 4) rfl (Or.inr ⟨rfl, rfl⟩) (de_if (dt_cmp ok_in (de_var (i := 3) rfl (Or.inl rfl)) (de_attr A.k_Pattern.f A.n_Pattern_letters.f (de_var (i := 0) rfl (Or.inr (Or.inl rfl))))) (de_sindex (de_attr A.k_Pattern.f A.n_Pattern_letters.f (de_var (i := 0) rfl (Or.inr (Or.inl rfl)))) (da_cons (de_var (i := 3) rfl (Or.inl rfl)) da_nil)) (de_gint rfl A.c_DEAD)))
    (dss_one (ds_frz [2, 4] (ds_setLc (k := 2) (own := [("state", 5)]) rfl rfl rfl rfl (by kernel_rfl) (di_any (de_var (i := 2) rfl (Or.inl rfl))) (by kernel_rfl) (dg_name (i := 5) rfl (Or.inl rfl)) dts_nil (de_if (dt_cmp ok_in (de_gint rfl A.c_DEAD) (de_tup (da_cons (de_var (i := 5) rfl (Or.inl rfl)) (da_cons (de_var (i := 4) rfl (Or.inr (Or.inl rfl))) da_nil)))) (de_gint rfl A.c_DEAD) (de_ix (de_ix (de_attr A.k_Pattern.f A.n_Pattern_table.f (de_var (i := 0) rfl (Or.inr (Or.inl rfl)))) (de_var (i := 5) rfl (Or.inl rfl))) (de_var (i := 4) rfl (Or.inr (Or.inl rfl)))))))))
theorem dg_Pattern_map_of (A : Al K mg) : DSs ⟨P, w, K, mg, base, N_Pattern_map_of, defScope s_Pattern_map_of, 0, fun _ => true, false, none⟩ (defBody s_Pattern_map_of) g_Pattern_map_of :=
  (dss_cons (ds_set (i := 2) rfl (Or.inl rfl) (de_lstR1 rfl A.b_list rfl A.b_range (de_fn ok_len rfl A.b_len bt_len (da_cons (de_attr A.k_Pattern.f A.n_Pattern_table.f (de_var (i := 0) rfl (Or.inr (Or.inl rfl)))) da_nil))))
    (dss_cons (ds_for (di_any (de_var (i := 1) rfl (Or.inl rfl))) (dg_name (i := 3) rfl (Or.inl rfl)) (dg_Pattern_map_of_b1 A))
    (dss_one (ds_ret (de_fnT ok_tuple rfl A.b_tuple bt_tuple (da_cons (de_var (i := 2) rfl (Or.inl rfl)) da_nil))))))
theorem ok_Pattern_map_of (A : Al K mg) : FnMX P w K mg base 1 "Pattern" "map_of" 1 F_Pattern_map_of := fnmx A.m_Pattern_map_of sc_Pattern_map_of rfl (fun _ _ _ _ _ _ us hl => match us, hl with | [_, _], _ => rfl) (dg_Pattern_map_of A)
/-! Pattern_matches -/
abbrev s_Pattern_matches : Stmt := (inClass (top 12) 8)
def N_Pattern_matches : List Str := ["self", "word"]
def g_Pattern_matches : GS := (sRet (gBin (kIn false) (gBin kIx (gMeth "Pattern" "map_of" 1 F_Pattern_map_of (gVar 0) (gCons (gVar 1) gNil)) (gC (.int 0))) (gAttr "Pattern" "ends" (gVar 0))))
def F_Pattern_matches : List D → M Rv := runB N_Pattern_matches g_Pattern_matches
theorem sc_Pattern_matches : FnScope N_Pattern_matches ["self", "word"] (defScope s_Pattern_matches) := ⟨rfl, rfl, rfl, by decide +kernel, rfl, by decide +kernel, by decide +kernel⟩
theorem dg_Pattern_matches (A : Al K mg) : DSs ⟨P, w, K, mg, base, N_Pattern_matches, defScope s_Pattern_matches, 1, fun _ => true, false, none⟩ (defBody s_Pattern_matches) g_Pattern_matches :=
  (dss_one (ds_ret (de_cmp ok_in (de_ix (de_meth A.k_Pattern.f A.k_Pattern.ex ((ok_Pattern_map_of A).at (Nat.le_of_ble_eq_true rfl)) (de_var (i := 0) rfl (Or.inl rfl)) (da_cons (de_var (i := 1) rfl (Or.inl rfl)) da_nil)) de_int) (de_attr A.k_Pattern.f A.n_Pattern_ends.f (de_var (i := 0) rfl (Or.inl rfl))))))
theorem ok_Pattern_matches (A : Al K mg) : FnMX P w K mg base 2 "Pattern" "matches" 1 F_Pattern_matches := fnmx A.m_Pattern_matches sc_Pattern_matches rfl (fun _ _ _ _ _ _ us hl => match us, hl with | [_, _], _ => rfl) (dg_Pattern_matches A)
/-! law_map -/
abbrev s_law_map : Stmt := (top 23)
def N_law_map : List Str := ["_law_sketch", "_law_word_here", "_law_found", "_law_state", "_law_sign"]
def g_law_map_b2 : GS := (sIf (gTB (gBin (kGe) (gVar 3) (gC (.int 0)))) (sSet 3 (gIf (gTB (gBin (kIn false) (gVar 4) (gBin kIx (gVar 0) (gC (.int 0))))) (gBin kIx (gBin kIx (gBin kIx (gVar 0) (gC (.int 1))) (gVar 3)) (gSIx (gBin kIx (gVar 0) (gC (.int 0))) (gCons (gVar 4) gNil))) (gUn kNeg (gC (.int 1))))) sNext)
def g_law_map_b1 : GS := (sSeq (sFor (gItems (gVar 1)) (tName 4) g_law_map_b2)
    (sOwn 2 (gCons (gVar 3) gNil) fAppend))
def g_law_map : GS := (sSeq (sSet 2 (gLst gNil))
    (sSeq (sFor (gRange1 (gCons (gFn kLen (gCons (gBin kIx (gVar 0) (gC (.int 1))) gNil)) gNil)) (tName 3) g_law_map_b1)
    (sRet (gFn kTuple (gCons (gVar 2) gNil)))))
def F_law_map : List D → M Rv := runB N_law_map g_law_map
theorem sc_law_map : FnScope N_law_map ["_law_sketch", "_law_word_here"] (defScope s_law_map) := ⟨rfl, rfl, rfl, by decide +kernel, rfl, by decide +kernel, by decide +kernel⟩
theorem dg_law_map_b2 (A : Al K mg) : DSs ⟨P, w, K, mg, base, N_law_map, defScope s_law_map, 0, fun _ => true, false, none⟩ (bodyOf (sAt (bodyOf (sAt (defBody s_law_map) 1)) 0)) (g_law_map_b2) :=
  (dss_one (ds_if (dt_cmp ok_ge (de_var (i := 3) rfl (Or.inl rfl)) de_int) (dss_one (ds_set (i := 3) rfl (Or.inl rfl) (de_if (dt_cmp ok_in (de_var (i := 4) rfl (Or.inl rfl)) (de_ix (de_var (i := 0) rfl (Or.inl rfl)) de_int)) (de_ix (de_ix (de_ix (de_var (i := 0) rfl (Or.inl rfl)) de_int) (de_var (i := 3) rfl (Or.inl rfl))) (de_sindex (de_ix (de_var (i := 0) rfl (Or.inl rfl)) de_int) (da_cons (de_var (i := 4) rfl (Or.inl rfl)) da_nil))) (de_neg de_int)))) dss_nil))
theorem dg_law_map_b1 (A : Al K mg) : DSs ⟨P, w, K, mg, base, N_law_map, defScope s_law_map, 0, fun _ => true, false, none⟩ (bodyOf (sAt (defBody s_law_map) 1)) (g_law_map_b1) :=
  (dss_cons (ds_for (di_any (de_var (i := 1) rfl (Or.inl rfl))) (dg_name (i := 4) rfl (Or.inl rfl)) (dg_law_map_b2 A))
    (dss_one (ds_append (i := 2) rfl (Or.inl rfl) (da_cons (de_var (i := 3) rfl (Or.inl rfl)) da_nil))))
theorem dg_law_map (A : Al K mg) : DSs ⟨P, w, K, mg, base, N_law_map, defScope s_law_map, 0, fun _ => true, false, none⟩ (defBody s_law_map) g_law_map :=
  (dss_cons (ds_set (i := 2) rfl (Or.inl rfl) (de_lst da_nil))
    (dss_cons (ds_for (di_range1 rfl A.b_range (da_cons (de_fn ok_len rfl A.b_len bt_len (da_cons (de_ix (de_var (i := 0) rfl (Or.inl rfl)) de_int) da_nil)) da_nil)) (dg_name (i := 3) rfl (Or.inl rfl)) (dg_law_map_b1 A))
    (dss_one (ds_ret (de_fnT ok_tuple rfl A.b_tuple bt_tuple (da_cons (de_var (i := 2) rfl (Or.inl rfl)) da_nil))))))
theorem ok_law_map (A : Al K mg) : FnX P w K mg base 1 "_law_map" 2 F_law_map := by
  obtain ⟨fa, fd, F, h⟩ := A.d_law_map
  exact fnxD F h sc_law_map rfl (fun _ _ _ _ _ _ us hl => match us, hl with | [_, _], _ => rfl) (dg_law_map A)
/-! law_matches -/
abbrev s_law_matches : Stmt := (top 24)
def N_law_matches : List Str := ["_law_sketch", "_law_word_here"]
def g_law_matches : GS := (sRet (gOrV (gBin (kIs false) (gVar 1) (gC .non)) (gBin (kIn false) (gBin kIx (gCall 2 F_law_map (gCons (gVar 0) (gCons (gVar 1) gNil))) (gC (.int 0))) (gBin kIx (gVar 0) (gC (.int 2))))))
def F_law_matches : List D → M Rv := runB N_law_matches g_law_matches
theorem sc_law_matches : FnScope N_law_matches ["_law_sketch", "_law_word_here"] (defScope s_law_matches) := ⟨rfl, rfl, rfl, by decide +kernel, rfl, by decide +kernel, by decide +kernel⟩
theorem dg_law_matches (A : Al K mg) : DSs ⟨P, w, K, mg, base, N_law_matches, defScope s_law_matches, 1, fun _ => true, false, none⟩ (defBody s_law_matches) g_law_matches :=
  (dss_one (ds_ret (de_or (de_cmp ok_is (de_var (i := 1) rfl (Or.inl rfl)) de_non) (de_one (de_cmp ok_in (de_ix (de_call ((ok_law_map A).at (Nat.le_of_ble_eq_true rfl)) rfl (da_cons (de_var (i := 0) rfl (Or.inl rfl)) (da_cons (de_var (i := 1) rfl (Or.inl rfl)) da_nil))) de_int) (de_ix (de_var (i := 0) rfl (Or.inl rfl)) de_int))))))
theorem ok_law_matches (A : Al K mg) : FnX P w K mg base 2 "_law_matches" 2 F_law_matches := by
  obtain ⟨fa, fd, F, h⟩ := A.d_law_matches
  exact fnxD F h sc_law_matches rfl (fun _ _ _ _ _ _ us hl => match us, hl with | [_, _], _ => rfl) (dg_law_matches A)
/-! law -/
abbrev s_law : Stmt := (top 25)
def N_law : List Str := ["_law_script", "_law_bag_here", "_law_turn", "_law_sketch", "_law_pattern_here", "_law_ink", "_law_words", "_law_word_here", "_law_due", "_law_long", "_law_maps", "_law_both", "_law_k"]
def g_law_b2 : GS := (sSeq (sFrz [3] (sSet 8 (gLst (gCons (gCall 2 F_law_map (gCons (gVar 3) (gCons (gVar 7) gNil))) (gCons (gCall 2 F_law_matches (gCons (gVar 3) (gCons (gVar 7) gNil))) gNil)))))
    (sFrz [8] (sIf (gNotT (gTru (gCall 2 (F_law_same 8) (gCons (gLst (gCons (gMeth "Pattern" "map_of" 1 F_Pattern_map_of (gVar 4) (gCons (gVar 7) gNil)) (gCons (gMeth "Pattern" "matches" 1 F_Pattern_matches (gVar 4) (gCons (gVar 7) gNil)) gNil))) (gCons (gVar 8) gNil))))) (sRet (gC (.bl false))) sNext)))
def g_law_b1 : GS := (sSeq (sSet 3 (gCall 3 F_law_pattern_plan (gCons (gVar 1) (gCons (gCall 2 F_law_reads (gCons (gVar 1) (gCons (gC (.int 4)) gNil))) (gCons (gC (.int 4)) gNil)))))
    (sSeq (sFrz [3] (sSet 4 (gCall 1 F_law_pattern (gCons (gVar 3) gNil))))
    (sSeq (sSet 5 (gBin kAdd (gBin kMulX (gBin kIx (gVar 3) (gC (.int 0))) (gC (.int 4))) (gCall 2 F_law_of (gCons (gVar 1) (gCons (gLst (gCons (gC (.str [])) (gCons (gC (.str [122])) (gCons (gC (.str [121, 119])) (gCons (gC (.str [98])) gNil))))) gNil)))))
    (sSeq (sSet 6 (gLc (gRange1 (gCons (gC (.int 3)) gNil)) [12] (tName 12) gYes (gCall 3 F_law_word (gCons (gVar 1) (gCons (gVar 5) (gCons (gCall 2 F_law_of (gCons (gVar 1) (gCons (gLst (gCons (gC (.int 1)) (gCons (gC (.int 3)) (gCons (gC (.int 8)) gNil)))) gNil))) gNil))))))
    (sSeq (sFrz [6] (sFor (gItems (gVar 6)) (tName 7) g_law_b2))
    (sSeq (sSet 9 (gBin kMulX (gBin kAdd (gBin kIx (gVar 6) (gC (.int 0))) (gBin kIx (gVar 3) (gC (.int 0)))) (gC (.int 80))))
    (sSeq (sFrz [3] (sIf (gNotT (gTru (gCall 2 (F_law_same 8) (gCons (gLst (gCons (gMeth "Pattern" "map_of" 1 F_Pattern_map_of (gVar 4) (gCons (gVar 9) gNil)) (gCons (gMeth "Pattern" "matches" 1 F_Pattern_matches (gVar 4) (gCons (gVar 9) gNil)) gNil))) (gCons (gLst (gCons (gCall 2 F_law_map (gCons (gVar 3) (gCons (gVar 9) gNil))) (gCons (gCall 2 F_law_matches (gCons (gVar 3) (gCons (gVar 9) gNil))) gNil))) gNil))))) (sRet (gC (.bl false))) sNext))
    (sSeq (sFrz [6] (sSet 10 (gLc (gItems (gVar 6)) [7] (tName 7) gYes (gMeth "Pattern" "map_of" 1 F_Pattern_map_of (gVar 4) (gCons (gVar 7) gNil)))))
    (sSeq (sSet 11 (gCall 2 F_join_maps (gCons (gBin kIx (gVar 10) (gC (.int 0))) (gCons (gBin kIx (gVar 10) (gC (.int 1))) gNil))))
    (sSeq (sFrz [11, 3] (sIf (gNotT (gTru (gCall 2 (F_law_same 8) (gCons (gLst (gCons (gVar 11) (gCons (gCall 2 F_join_maps (gCons (gFn kListA (gCons (gBin kIx (gVar 10) (gC (.int 0))) gNil)) (gCons (gFn kListA (gCons (gBin kIx (gVar 10) (gC (.int 1))) gNil)) gNil))) gNil))) (gCons (gBin kMul (gLst (gCons (gCall 2 F_law_map (gCons (gVar 3) (gCons (gBin kAdd (gBin kIx (gVar 6) (gC (.int 0))) (gBin kIx (gVar 6) (gC (.int 1)))) gNil))) gNil)) (gC (.int 2))) gNil))))) (sRet (gC (.bl false))) sNext))
    (sFrz [11] (sIf (gTB (gBin (kEq' true) (gCall 2 F_join_maps (gCons (gVar 11) (gCons (gBin kIx (gVar 10) (gC (.int 2))) gNil))) (gMeth "Pattern" "map_of" 1 F_Pattern_map_of (gVar 4) (gCons (gJoin (gC (.str [])) (gVar 6)) gNil)))) (sRet (gC (.bl false))) sNext))))))))))))
def g_law : GS := (sSeq (sCell 1 (gCall 1 F_law_bag (gCons (gVar 0) gNil)))
    (sSeq (sFor (gRange1 (gCons (gC (.int 5)) gNil)) (tName 2) g_law_b1)
    (sRet (gAndV (gBin (kIs false) (gMeth "Pattern" "matches" 1 F_Pattern_matches (gMakeZ "Pattern" 3 F_Pattern___init__ (gCons (gC (.str [97])) (gCons (gLst (gCons (gTup (gCons (gC (.int 0)) gNil)) gNil)) (gCons (gLst gNil) gNil)))) (gCons (gC (.str [])) gNil)) (gC (.bl false))) (gBin (kIs false) (gMeth "Pattern" "matches" 1 F_Pattern_matches (gMakeZ "Pattern" 3 F_Pattern___init__ (gCons (gC (.str [97])) (gCons (gLst (gCons (gTup (gCons (gC (.int 0)) gNil)) gNil)) (gCons (gLst (gCons (gC (.int 0)) gNil)) gNil)))) (gCons (gC (.str [98])) gNil)) (gC (.bl false)))))))
def F_law : List D → M Rv := runB N_law g_law
theorem sc_law : FnScope N_law ["_law_script"] (defScope s_law) := ⟨rfl, rfl, rfl, by decide +kernel, rfl, by decide +kernel, by decide +kernel⟩
theorem dg_law_b2 (A : Al K mg) : DSs ⟨P, w, K, mg, base, N_law, defScope s_law, 9, fun _ => true, false, none⟩ (bodyOf (sAt (bodyOf (sAt (defBody s_law) 1)) 4)) (g_law_b2) :=
  (dss_cons (ds_frz [3] (ds_set (i := 8) rfl (Or.inl rfl) (de_lst (da_cons (de_call ((ok_law_map A).at (Nat.le_of_ble_eq_true rfl)) rfl (da_cons (de_var (i := 3) rfl (Or.inl rfl)) (da_cons (de_var (i := 7) rfl (Or.inl rfl)) da_nil))) (da_cons (de_call ((ok_law_matches A).at (Nat.le_of_ble_eq_true rfl)) rfl (da_cons (de_var (i := 3) rfl (Or.inl rfl)) (da_cons (de_var (i := 7) rfl (Or.inl rfl)) da_nil))) da_nil)))))
    (dss_one (ds_frz [8] (ds_if (dt_not (dt_tru (de_call ((ok_law_same A).at (Nat.le_of_ble_eq_true rfl)) rfl (da_cons (de_lst (da_cons (de_meth A.k_Pattern.f A.k_Pattern.ex ((ok_Pattern_map_of A).at (Nat.le_of_ble_eq_true rfl)) (de_var (i := 4) rfl (Or.inr (Or.inl rfl))) (da_cons (de_var (i := 7) rfl (Or.inl rfl)) da_nil)) (da_cons (de_meth A.k_Pattern.f A.k_Pattern.ex ((ok_Pattern_matches A).at (Nat.le_of_ble_eq_true rfl)) (de_var (i := 4) rfl (Or.inr (Or.inl rfl))) (da_cons (de_var (i := 7) rfl (Or.inl rfl)) da_nil)) da_nil))) (da_cons (de_var (i := 8) rfl (Or.inl rfl)) da_nil))))) (dss_one (ds_ret de_bl)) dss_nil))))
theorem dg_law_b1 (A : Al K mg) : DSs ⟨P, w, K, mg, base, N_law, defScope s_law, 9, fun _ => true, false, none⟩ (bodyOf (sAt (defBody s_law) 1)) (g_law_b1) :=
  (dss_cons (ds_set (i := 3) rfl (Or.inl rfl) (de_call ((ok_law_pattern_plan A).at (Nat.le_of_ble_eq_true rfl)) rfl (da_cons (de_var (i := 1) rfl (Or.inr (Or.inl rfl))) (da_cons (de_call ((ok_law_reads A).at (Nat.le_of_ble_eq_true rfl)) rfl (da_cons (de_var (i := 1) rfl (Or.inr (Or.inl rfl))) (da_cons de_int da_nil))) (da_cons de_int da_nil)))))
    (dss_cons (ds_frz [3] (ds_set (i := 4) rfl (Or.inr ⟨rfl, rfl⟩) (de_call ((ok_law_pattern A).at (Nat.le_of_ble_eq_true rfl)) rfl (da_cons (de_var (i := 3) rfl (Or.inl rfl)) da_nil))))
    (dss_cons (ds_set (i := 5) rfl (Or.inr ⟨rfl, rfl⟩) (de_bin ok_add (de_bin ok_mulX (de_ix (de_var (i := 3) rfl (Or.inl rfl)) de_int) de_int) (de_call ((ok_law_of A).at (Nat.le_of_ble_eq_true rfl)) rfl (da_cons (de_var (i := 1) rfl (Or.inr (Or.inl rfl))) (da_cons (de_lst (da_cons de_str (da_cons de_str (da_cons de_str (da_cons de_str da_nil))))) da_nil)))))
    (dss_cons (ds_setLc (k := 6) (own := [("_law_k", 12)]) rfl rfl rfl rfl (by kernel_rfl) (di_range1 rfl A.b_range (da_cons de_int da_nil)) (by kernel_rfl) (dg_name (i := 12) rfl (Or.inl rfl)) dts_nil (de_call ((ok_law_word A).at (Nat.le_of_ble_eq_true rfl)) rfl (da_cons (de_var (i := 1) rfl (Or.inr (Or.inl rfl))) (da_cons (de_var (i := 5) rfl (Or.inr (Or.inl rfl))) (da_cons (de_call ((ok_law_of A).at (Nat.le_of_ble_eq_true rfl)) rfl (da_cons (de_var (i := 1) rfl (Or.inr (Or.inl rfl))) (da_cons (de_lst (da_cons de_int (da_cons de_int (da_cons de_int da_nil)))) da_nil))) da_nil)))))
    (dss_cons (ds_frz [6] (ds_for (di_any (de_var (i := 6) rfl (Or.inl rfl))) (dg_name (i := 7) rfl (Or.inl rfl)) (dg_law_b2 A)))
    (dss_cons (ds_set (i := 9) rfl (Or.inl rfl) (de_bin ok_mulX (de_bin ok_add (de_ix (de_var (i := 6) rfl (Or.inl rfl)) de_int) (de_ix (de_var (i := 3) rfl (Or.inl rfl)) de_int)) de_int))
    (dss_cons (ds_frz [3] (ds_if (dt_not (dt_tru (de_call ((ok_law_same A).at (Nat.le_of_ble_eq_true rfl)) rfl (da_cons (de_lst (da_cons (de_meth A.k_Pattern.f A.k_Pattern.ex ((ok_Pattern_map_of A).at (Nat.le_of_ble_eq_true rfl)) (de_var (i := 4) rfl (Or.inr (Or.inl rfl))) (da_cons (de_var (i := 9) rfl (Or.inl rfl)) da_nil)) (da_cons (de_meth A.k_Pattern.f A.k_Pattern.ex ((ok_Pattern_matches A).at (Nat.le_of_ble_eq_true rfl)) (de_var (i := 4) rfl (Or.inr (Or.inl rfl))) (da_cons (de_var (i := 9) rfl (Or.inl rfl)) da_nil)) da_nil))) (da_cons (de_lst (da_cons (de_call ((ok_law_map A).at (Nat.le_of_ble_eq_true rfl)) rfl (da_cons (de_var (i := 3) rfl (Or.inl rfl)) (da_cons (de_var (i := 9) rfl (Or.inl rfl)) da_nil))) (da_cons (de_call ((ok_law_matches A).at (Nat.le_of_ble_eq_true rfl)) rfl (da_cons (de_var (i := 3) rfl (Or.inl rfl)) (da_cons (de_var (i := 9) rfl (Or.inl rfl)) da_nil))) da_nil))) da_nil))))) (dss_one (ds_ret de_bl)) dss_nil))
    (dss_cons (ds_frz [6] (ds_setLc (k := 10) (own := [("_law_word_here", 7)]) rfl rfl rfl rfl (by kernel_rfl) (di_any (de_var (i := 6) rfl (Or.inl rfl))) (by kernel_rfl) (dg_name (i := 7) rfl (Or.inl rfl)) dts_nil (de_meth A.k_Pattern.f A.k_Pattern.ex ((ok_Pattern_map_of A).at (Nat.le_of_ble_eq_true rfl)) (de_var (i := 4) rfl (Or.inr (Or.inl rfl))) (da_cons (de_var (i := 7) rfl (Or.inl rfl)) da_nil))))
    (dss_cons (ds_set (i := 11) rfl (Or.inl rfl) (de_call ((ok_join_maps A).at (Nat.le_of_ble_eq_true rfl)) rfl (da_cons (de_ix (de_var (i := 10) rfl (Or.inl rfl)) de_int) (da_cons (de_ix (de_var (i := 10) rfl (Or.inl rfl)) de_int) da_nil))))
    (dss_cons (ds_frz [11, 3] (ds_if (dt_not (dt_tru (de_call ((ok_law_same A).at (Nat.le_of_ble_eq_true rfl)) rfl (da_cons (de_lst (da_cons (de_var (i := 11) rfl (Or.inl rfl)) (da_cons (de_call ((ok_join_maps A).at (Nat.le_of_ble_eq_true rfl)) rfl (da_cons (de_fnT ok_listA rfl A.b_list bt_list (da_cons (de_ix (de_var (i := 10) rfl (Or.inl rfl)) de_int) da_nil)) (da_cons (de_fnT ok_listA rfl A.b_list bt_list (da_cons (de_ix (de_var (i := 10) rfl (Or.inl rfl)) de_int) da_nil)) da_nil))) da_nil))) (da_cons (de_bin ok_mul (de_lst (da_cons (de_call ((ok_law_map A).at (Nat.le_of_ble_eq_true rfl)) rfl (da_cons (de_var (i := 3) rfl (Or.inl rfl)) (da_cons (de_bin ok_add (de_ix (de_var (i := 6) rfl (Or.inl rfl)) de_int) (de_ix (de_var (i := 6) rfl (Or.inl rfl)) de_int)) da_nil))) da_nil)) de_int) da_nil))))) (dss_one (ds_ret de_bl)) dss_nil))
    (dss_one (ds_frz [11] (ds_if (dt_cmp ok_ne' (de_call ((ok_join_maps A).at (Nat.le_of_ble_eq_true rfl)) rfl (da_cons (de_var (i := 11) rfl (Or.inl rfl)) (da_cons (de_ix (de_var (i := 10) rfl (Or.inl rfl)) de_int) da_nil))) (de_meth A.k_Pattern.f A.k_Pattern.ex ((ok_Pattern_map_of A).at (Nat.le_of_ble_eq_true rfl)) (de_var (i := 4) rfl (Or.inr (Or.inl rfl))) (da_cons (de_join de_str (de_var (i := 6) rfl (Or.inl rfl))) da_nil))) (dss_one (ds_ret de_bl)) dss_nil)))))))))))))
theorem dg_law (A : Al K mg) : DSs ⟨P, w, K, mg, base, N_law, defScope s_law, 9, fun _ => true, false, none⟩ (defBody s_law) g_law :=
  (dss_cons (ds_cell (i := 1) rfl (Or.inr ⟨rfl, rfl⟩) (de_call ((ok_law_bag A).at (Nat.le_of_ble_eq_true rfl)) rfl (da_cons (de_var (i := 0) rfl (Or.inl rfl)) da_nil)))
    (dss_cons (ds_for (di_range1 rfl A.b_range (da_cons de_int da_nil)) (dg_name (i := 2) rfl (Or.inl rfl)) (dg_law_b1 A))
    (dss_one (ds_ret (de_and (de_cmp ok_is (de_meth A.k_Pattern.f A.k_Pattern.ex ((ok_Pattern_matches A).at (Nat.le_of_ble_eq_true rfl)) (de_makeZ ((ok_Pattern___init__ A).at (Nat.le_of_ble_eq_true rfl)) rfl (da_cons de_str (da_cons (de_lst (da_cons (de_tup (da_cons de_int da_nil)) da_nil)) (da_cons (de_lst da_nil) da_nil)))) (da_cons de_str da_nil)) de_bl) (de_one (de_cmp ok_is (de_meth A.k_Pattern.f A.k_Pattern.ex ((ok_Pattern_matches A).at (Nat.le_of_ble_eq_true rfl)) (de_makeZ ((ok_Pattern___init__ A).at (Nat.le_of_ble_eq_true rfl)) rfl (da_cons de_str (da_cons (de_lst (da_cons (de_tup (da_cons de_int da_nil)) da_nil)) (da_cons (de_lst (da_cons de_int da_nil)) da_nil)))) (da_cons de_str da_nil)) de_bl)))))))
theorem ok_law (A : Al K mg) : FnX P w K mg base 10 "law" 1 F_law := by
  obtain ⟨fa, fd, F, h⟩ := A.d_law
  exact fnxD F h sc_law rfl (fun _ _ _ _ _ _ us hl => match us, hl with | [_], _ => rfl) (dg_law A)
end
theorem facts {K : PySem.W.Frag} {h : Heap} {mg : Str → Option Value} (X : K.In h) (G : h.Ns mainGlobals mg) (c : He.SaysD fa fn K) : Al K mg := by
  refine ⟨?_, ?_, ?_, ?_, ?_, ?_, ?_, ?_, ?_, ?_, ?_, ?_, ?_, ?_, ?_, ?_, ?_, ?_, ?_, ?_, ?_, ?_, ?_, ?_, ?_, ?_, ?_, ?_, ?_, ?_, ?_, ?_, ?_, ?_, ?_⟩
  · exact He.free_ok X G (c.fact 0 (f := .free "list") rfl)
  · exact He.free_ok X G (c.fact 1 (f := .free "len") rfl)
  · exact He.free_ok X G (c.fact 2 (f := .free "range") rfl)
  · exact He.free_ok X G (c.fact 3 (f := .free "tuple") rfl)
  · exact He.free_ok X G (c.fact 4 (f := .free "all") rfl)
  · exact He.free_ok X G (c.fact 5 (f := .free "sorted") rfl)
  · exact He.free_ok X G (c.fact 6 (f := .free "isinstance") rfl)
  · exact He.free_ok X G (c.fact 7 (f := .free "bool") rfl)
  · exact He.free_ok X G (c.fact 8 (f := .free "int") rfl)
  · exact He.free_ok X G (c.fact 9 (f := .free "str") rfl)
  · exact He.str_ok X G (c.fact 10 (f := .str "LETTERS" "abcdefghijklmnopqrstuvwxyz") rfl)
  · exact He.int_ok X G (c.fact 11 (f := .int "MAX_ALPHABET" (4)) rfl)
  · exact He.int_ok X G (c.fact 12 (f := .int "MAX_STATES" (4)) rfl)
  · exact He.int_ok X G (c.fact 13 (f := .int "DEAD" (-1)) rfl)
  · obtain ⟨fd, F⟩ := c.def_ 0 (d := hd_law_bag) rfl
    exact ⟨_, fd, F, He.glo_ok X G (c.fact 14 (f := .glo "_law_bag") rfl)⟩
  · obtain ⟨fd, F⟩ := c.def_ 1 (d := hd_law_pull) rfl
    exact ⟨_, fd, F, He.glo_ok X G (c.fact 15 (f := .glo "_law_pull") rfl)⟩
  · obtain ⟨fd, F⟩ := c.def_ 2 (d := hd_law_of) rfl
    exact ⟨_, fd, F, He.glo_ok X G (c.fact 16 (f := .glo "_law_of") rfl)⟩
  · obtain ⟨fd, F⟩ := c.def_ 3 (d := hd_law_pattern_plan) rfl
    exact ⟨_, fd, F, He.glo_ok X G (c.fact 17 (f := .glo "_law_pattern_plan") rfl)⟩
  · obtain ⟨fd, F⟩ := c.def_ 4 (d := hd_is_word) rfl
    exact ⟨_, fd, F, He.glo_ok X G (c.fact 18 (f := .glo "is_word") rfl)⟩
  · obtain ⟨fd, F⟩ := c.def_ 5 (d := hd_is_alphabet) rfl
    exact ⟨_, fd, F, He.glo_ok X G (c.fact 19 (f := .glo "is_alphabet") rfl)⟩
  · obtain ⟨fd, F⟩ := c.def_ 7 (d := hd_law_pattern) rfl
    exact ⟨_, fd, F, He.glo_ok X G (c.fact 20 (f := .glo "_law_pattern") rfl)⟩
  · obtain ⟨fd, F⟩ := c.def_ 8 (d := hd_join_maps) rfl
    exact ⟨_, fd, F, He.glo_ok X G (c.fact 21 (f := .glo "join_maps") rfl)⟩
  · obtain ⟨fd, F⟩ := c.def_ 9 (d := hd_law_reads) rfl
    exact ⟨_, fd, F, He.glo_ok X G (c.fact 22 (f := .glo "_law_reads") rfl)⟩
  · obtain ⟨fd, F⟩ := c.def_ 10 (d := hd_law_word) rfl
    exact ⟨_, fd, F, He.glo_ok X G (c.fact 23 (f := .glo "_law_word") rfl)⟩
  · obtain ⟨fd, F⟩ := c.def_ 11 (d := hd_law_same) rfl
    exact ⟨_, fd, F, He.glo_ok X G (c.fact 24 (f := .glo "_law_same") rfl)⟩
  · obtain ⟨fd, F⟩ := c.def_ 14 (d := hd_law_map) rfl
    exact ⟨_, fd, F, He.glo_ok X G (c.fact 25 (f := .glo "_law_map") rfl)⟩
  · obtain ⟨fd, F⟩ := c.def_ 15 (d := hd_law_matches) rfl
    exact ⟨_, fd, F, He.glo_ok X G (c.fact 26 (f := .glo "_law_matches") rfl)⟩
  · obtain ⟨fd, F⟩ := c.def_ 16 (d := hd_law) rfl
    exact ⟨_, fd, F, He.glo_ok X G (c.fact 27 (f := .glo "law") rfl)⟩
  · exact ⟨_, He.glo_ok X G (c.fact 28 (f := .glo "Pattern") rfl), He.cls_ok (c.fact 29 (f := .cls "Pattern") rfl)⟩
  · exact ⟨_, He.glo_ok X G (c.fact 28 (f := .glo "Pattern") rfl), He.noat_ok (c.fact 30 (f := .noat "Pattern" "letters") rfl)⟩
  · exact ⟨_, He.glo_ok X G (c.fact 28 (f := .glo "Pattern") rfl), He.noat_ok (c.fact 31 (f := .noat "Pattern" "table") rfl)⟩
  · exact ⟨_, He.glo_ok X G (c.fact 28 (f := .glo "Pattern") rfl), He.noat_ok (c.fact 32 (f := .noat "Pattern" "ends") rfl)⟩
  · obtain ⟨fd, F⟩ := c.def_ 6 (d := hd_Pattern___init__) rfl
    exact ⟨_, _, fd, He.glo_ok X G (c.fact 28 (f := .glo "Pattern") rfl), He.mkr_ok (c.fact 33 (f := .mkr "Pattern") rfl), F⟩
  · obtain ⟨fd, F⟩ := c.def_ 12 (d := hd_Pattern_map_of) rfl
    exact ⟨_, _, fd, He.glo_ok X G (c.fact 28 (f := .glo "Pattern") rfl), He.meth_ok (c.fact 34 (f := .meth "Pattern" "map_of") rfl), F⟩
  · obtain ⟨fd, F⟩ := c.def_ 13 (d := hd_Pattern_matches) rfl
    exact ⟨_, _, fd, He.glo_ok X G (c.fact 28 (f := .glo "Pattern") rfl), He.meth_ok (c.fact 35 (f := .meth "Pattern" "matches") rfl), F⟩
theorem law_of (hmath : ∀ ns : List Int, ns.length ≤ 63 → ∃ st', F_law [.rol (ns.map D.int)] [] = some (.ok (.fz (.bl true)), st')) : PySem.Challenge.rw_pastewright_k25_maps_of_words.Holds := by
  w_on; o_law
  refine HandSHeadRun.head_any (r := R) (q := PySem.W.view R.prog [25]) (H := hk) (ob := ob) (M := 12000) (loose := loose) (d := HandSHeadRun.topDef R.prog 25) (kwd := []) ob_eq
    (by kernel_rfl) (fun s => by kernel_rfl) run (by kernel_rfl) (by kernel_rfl) (by kernel_rfl) (by rfl) (by first | assumption | decide +kernel) (by decide +kernel) ⟨rfl, rfl, rfl, rfl, rfl, by decide +kernel⟩ ?hw ?hc
  case hw => w_witness2
  case hc =>
    refine walkW (l := PySem.Challenge.rw_pastewright_k25_maps_of_words) (n := 63) (k := 10) (x := "_law_script") rfl (by decide) (by kernel_rfl) ⟨rfl, by decide, by decide⟩ ?F
    intro w mg fa h Y G hmg0
    obtain ⟨K, KX, c⟩ := Y
    have hmg : mg ("law" : PySem.Str) = some (.ref fa) := by
      have e : (HandSHeadRun.topDef R.prog 25).name = ("law" : PySem.Str) := by kernel_rfl
      rw [← e]
      exact hmg0
    have A := facts KX G c
    obtain ⟨fd, F⟩ := c.def_ 16 (d := hd_law) rfl
    have e := hmg.symm.trans (He.glo_ok KX G (c.fact 27 (f := .glo "law") rfl))
    cases e
    have b := FunD.bindsA (ps := ["_law_script"]) F fun _ _ _ _ _ _ us hl => match us, hl with | [_], _ => rfl
    exact ⟨K, fd, spD ⟨K, mg⟩ 1 F_law, KX, fun s v => b s [v] rfl, law_sp hmath, fun base _ _ => fnokD F sc_law (dg_law A)⟩
end DL.k25

namespace DL.k25
open PySem PySem.Spec PyProof.Rows L2 TL
set_option autoImplicit false
theorem pull_ok {sides : Int} (h0 : 0 < sides) (h1 : divOk sides = true) (cs : List Int) (i a s t : Int) (hi : 0 ≤ i) (rest : Sto) :
    wp (F_law_pull [.loc 0, .int sides] (some (bagC cs i a s t) :: rest)) (fun r st => ∃ k, r = .fz (.int k) ∧ 0 ≤ k ∧ k < sides ∧ BagR rest st) noX := by
  have m1 : ∀ x : Int, 0 ≤ x % sides := fun x => Int.emod_nonneg x (by omega)
  have m2 : ∀ x : Int, x % sides < sides := fun x => Int.emod_lt_of_pos x h0
  have m3 : ∀ x : Int, (x % 2147483647).natAbs < 18446744073709551616 := fun x => by omega
  by_cases ha : a = 0
  · subst ha
    by_cases hl : i < cs.length
    · obtain ⟨n, rfl⟩ := Int.eq_ofNat_of_zero_le hi
      have hn : n < cs.length := by omega
      by_cases hc : 1000000000000000000 ≤ cs[n]
      · have hp : 0 < cs[n] := by omega
        simp [F_law_pull, g_law_pull, startD, N_law_pull, bagC, hl, hn, atI_nat, hc, hp, h0, h1, mulOk_r, m1, m2]
        exact ⟨cs, _, _, _, _, by omega, rfl⟩
      · simp [F_law_pull, g_law_pull, startD, N_law_pull, bagC, hl, hn, atI_nat, hc, h0, h1, mulOk_r, mulOk_l, m1, m2, m3, divOk_of]
        exact ⟨cs, _, _, _, _, by omega, rfl⟩
    · simp [F_law_pull, g_law_pull, startD, N_law_pull, bagC, hl, atI_nat, h0, h1, mulOk_r, mulOk_l, m1, m2, m3, divOk_of]
      exact ⟨cs, _, _, _, _, by omega, rfl⟩
  · by_cases hp : 0 < a
    · simp [F_law_pull, g_law_pull, startD, N_law_pull, bagC, ha, hp, atI_nat, h0, h1, mulOk_r, m1, m2]
      exact ⟨cs, _, _, _, _, by omega, rfl⟩
    · simp [F_law_pull, g_law_pull, startD, N_law_pull, bagC, ha, hp, atI_nat, h0, h1, mulOk_r, mulOk_l, m1, m2, m3, divOk_of]
      exact ⟨cs, _, _, _, _, by omega, rfl⟩
/-- a draw: any number below sides -/
theorem wp_pull {sides : Int} {st rest : Sto} {Q : Rv → Sto → Prop} {X : Exn → Sto → Prop} (h0 : 0 < sides) (h1 : sides < 2 ^ 64) (hB : BagR rest st) (h : ∀ (k : Nat) st', (k : Int) < sides → BagR rest st' → Q (.fz (.int k)) st') : wp (F_law_pull [.loc 0, .int sides] st) Q X := by
  obtain ⟨cs, i, a, s, t, hi, rfl⟩ := hB
  refine wp_mono0 (pull_ok h0 (divOk_of h0 h1) cs i a s t hi rest) fun r st' q => ?_
  obtain ⟨k, rfl, h2, h3, h4⟩ := q
  obtain ⟨n, rfl⟩ := Int.eq_ofNat_of_zero_le h2
  exact h n st' h3 h4
theorem wp_of {ds : List D} {c : D} {st rest : Sto} {Q : Rv → Sto → Prop} {X : Exn → Sto → Prop} (hc : c = .lst ds ∨ c = .tup ds) (h0 : ds ≠ []) (h1 : ds.length < 2 ^ 64) (hB : BagR rest st) (h : ∀ d ∈ ds, ∀ st', BagR rest st' → Q (.fz d) st') : wp (F_law_of [.loc 0, c] st) Q X := by
  have h2 : 0 < ds.length := List.length_pos_iff.mpr h0
  rcases hc with rfl | rfl
  all_goals
    simp [F_law_of, g_law_of, startD, N_law_of]
    refine wp_pull (by omega) (by omega) hB fun k st' hk hB' => ?_
    have hk2 : k < ds.length := by omega
    simp [atI_nat, hk2]
    exact h _ (List.getElem_mem hk2) st' hB'
theorem wp_ofS {s : List Nat} {st rest : Sto} {Q : Rv → Sto → Prop} {X : Exn → Sto → Prop} (h0 : s ≠ []) (h1 : s.length ≤ 16777216) (hB : BagR rest st) (h : ∀ c ∈ s, ∀ st', BagR rest st' → Q (.fz (.str [c])) st') : wp (F_law_of [.loc 0, .str s] st) Q X := by
  have h2 : 0 < s.length := List.length_pos_iff.mpr h0
  simp [F_law_of, g_law_of, startD, N_law_of, h1]
  refine wp_pull (by omega) (by omega) hB fun k st' hk hB' => ?_
  have hk2 : k < s.length := by omega
  simp [atI_nat, hk2, h1]
  exact h _ (List.getElem_mem hk2) st' hB'

/-- plain data against itself -/
theorem wp_same : ∀ (n : Nat) {d : D} {st : Sto} {Q : Rv → Sto → Prop} {X : Exn → Sto → Prop}, plB n d = true → Q (.fz (.bl true)) st → wp (F_law_same n [d, d] st) Q X
  | 0, d, st, Q, X, hp, h => by cases hp
  | n + 1, .non, st, Q, X, hp, h => by
    simp [F_law_same, g_law_same, startD, N_law_same]; exact h
  | n + 1, .bl b, st, Q, X, hp, h => by
    simp [F_law_same, g_law_same, startD, N_law_same]; exact h
  | n + 1, .int b, st, Q, X, hp, h => by
    simp [F_law_same, g_law_same, startD, N_law_same]; exact h
  | n + 1, .str b, st, Q, X, hp, h => by
    simp [F_law_same, g_law_same, startD, N_law_same]; exact h
  | n + 1, .lst ds, st, Q, X, hp, h => by
    have hp2 : ds.length ≤ 16777216 ∧ ∀ x ∈ ds, plB n x = true := by simpa [plB] using hp
    simp [F_law_same, g_law_same, startD, N_law_same]
    refine guard_i (okR_ok (j := (ds.length : Int)) (by omega) (by omega)) ?_
    simp
    refine wp_compR (f := fun _ => .bl true) hp2.1 (fun i hi => ?_) ?_
    · simp [atI_nat, hi]
      exact wp_same n (hp2.2 _ (List.getElem_mem hi)) (And.intro rfl rfl)
    · simp [bls_mapf]
      exact h
  | n + 1, .tup ds, st, Q, X, hp, h => by
    have hp2 : ds.length ≤ 16777216 ∧ ∀ x ∈ ds, plB n x = true := by simpa [plB] using hp
    simp [F_law_same, g_law_same, startD, N_law_same]
    refine guard_i (okR_ok (j := (ds.length : Int)) (by omega) (by omega)) ?_
    simp
    refine wp_compR (f := fun _ => .bl true) hp2.1 (fun i hi => ?_) ?_
    · simp [atI_nat, hi]
      exact wp_same n (hp2.2 _ (List.getElem_mem hi)) (And.intro rfl rfl)
    · simp [bls_mapf]
      exact h
theorem same_eq (n : Nat) {d : D} (h : plB n d = true) (st : Sto) : F_law_same n [d, d] st = some (.ok (.fz (.bl true)), st) := by
  refine eq_of_wp ?_
  refine wp_same n h ?_
  exact And.intro rfl rfl
/-- the bag of a script -/
theorem wp_bag {ns : List Int} {Q : Rv → Sto → Prop} {X : Exn → Sto → Prop} (hl : ns.length ≤ 63) (h : ∀ cs a s t i, 0 ≤ i → Q (.ow (bagC cs i a s t)) []) : wp (F_law_bag [.rol (ns.map D.int)] []) Q X := by
  have hc : ∀ o : Option Int, cutQ (ns.map D.int) none o = (cutQ ns none o).map D.int := fun o => by
    unfold cutQ
    rw [List.map_take, List.map_drop, List.length_map]
  simp [F_law_bag, g_law_bag, g_law_bag_b1, startD, N_law_bag]
  refine wpS_forG (fun _ δ st => st = [] ∧ ∃ (s : Int) (x : Option SV), δ = [some (.fz (.rol (ns.map D.int))), some (.fz (.int s)), x]) _ 0 ⟨rfl, _, _, rfl⟩ (fun i d δ st hd hI => ?_) (fun δ st hI => ?_)
  · obtain ⟨rfl, s, x, rfl⟩ := hI
    rw [hc] at hd
    obtain ⟨n, hn, rfl⟩ := List.mem_map.mp (List.mem_of_getElem? hd)
    simp [mulOk_r]
  · obtain ⟨rfl, s, x, rfl⟩ := hI
    simp [hc]
    exact h _ 0 s 0 0 (by omega)

theorem rise_app {s : List Nat} {c : Nat} (h : rising s = true) (hc : ∀ x ∈ s, x < c) : rising (s ++ [c]) = true := by
  unfold rising at h ⊢
  rw [List.all_eq_true] at h ⊢
  intro i hi
  rw [List.mem_range, List.length_append, List.length_singleton] at hi
  rw [lt_one, decide_eq_true_eq]
  by_cases z : i + 1 < s.length
  · have := h i (List.mem_range.mpr (by omega))
    rw [lt_one, decide_eq_true_eq] at this
    unfold nth at this ⊢
    rw [List.getD_eq_getElem?_getD, List.getD_eq_getElem?_getD, List.getElem?_append_left (by omega), List.getElem?_append_left (by omega), ← List.getD_eq_getElem?_getD, ← List.getD_eq_getElem?_getD]
    exact this
  · have e : i + 1 = s.length := by omega
    unfold nth
    rw [e, List.getD_eq_getElem?_getD, List.getD_eq_getElem?_getD, List.getElem?_append_left (show i < s.length by omega), List.getElem?_append_right (Nat.le_refl _), Nat.sub_self, List.getElem?_eq_getElem (show i < s.length by omega)]
    exact hc _ (List.getElem_mem _)
theorem az_at {k : Nat} (h : k < 26) : ([97, 98, 99, 100, 101, 102, 103, 104, 105, 106, 107, 108, 109, 110, 111, 112, 113, 114, 115, 116, 117, 118, 119, 120, 121, 122] : List Nat)[k]? = some (97 + k) := by
  have : ∀ k < 26, ([97, 98, 99, 100, 101, 102, 103, 104, 105, 106, 107, 108, 109, 110, 111, 112, 113, 114, 115, 116, 117, 118, 119, 120, 121, 122] : List Nat)[k]? = some (97 + k) := by decide
  exact this k h
theorem az_ix {k : Nat} (h : k < ([97, 98, 99, 100, 101, 102, 103, 104, 105, 106, 107, 108, 109, 110, 111, 112, 113, 114, 115, 116, 117, 118, 119, 120, 121, 122] : List Nat).length) : ([97, 98, 99, 100, 101, 102, 103, 104, 105, 106, 107, 108, 109, 110, 111, 112, 113, 114, 115, 116, 117, 118, 119, 120, 121, 122] : List Nat)[k] = 97 + k := by
  have := az_at (k := k) h
  rw [List.getElem?_eq_getElem h] at this
  exact Option.some.inj this
structure ReadsI (rest : Sto) (most : Nat) (j : Nat) (δ : DEnv) (st : Sto) : Prop where
  ex : BagR rest st ∧ ∃ w, ∃ p : Nat, ∃ x, w.length = j ∧ w.all (fun c => decide (c ∈ letters)) = true ∧ rising w = true ∧ (∀ c ∈ w, c < 97 + p) ∧ p ≤ 8 + 5 * j ∧ δ = [some (.fz (.loc 0)), some (.fz (.int most)), some (.fz (.str w)), some (.fz (.int p)), x]
theorem wp_reads {most : Nat} {st rest : Sto} {Q : Rv → Sto → Prop} {X : Exn → Sto → Prop} (h1 : 1 ≤ most) (h2 : most ≤ 4) (hB : BagR rest st)
    (h : ∀ w : List Nat, (1 ≤ w.length ∧ w.length ≤ most) → w.all (fun c => decide (c ∈ letters)) = true → rising w = true → ∀ st', BagR rest st' → Q (.fz (.str w)) st') : wp (F_law_reads [.loc 0, .int most] st) Q X := by
  simp [F_law_reads, g_law_reads, startD, N_law_reads]
  refine wp_pull (by omega) (by omega) hB fun k st' hk hB' => ?_
  simp
  refine wp_pull (by omega) (by omega) hB' fun n st' hn hB' => ?_
  simp
  refine guard_i (okR_ok (j := 1 + (n : Int)) (by omega) (by omega)) ?_
  simp
  refine wpS_forG (ReadsI rest most) _ 0 ⟨hB', [], k, _, rfl, rfl, rfl, by simp, by omega, rfl⟩ (fun j d δ st2 hd hI => ?_) (fun δ st2 hI => ?_)
  · obtain ⟨hB2, w, p, x, e1, e2, e3, e4, e5, rfl⟩ := hI.ex
    obtain ⟨hj, rfl⟩ := range_at hd
    have hp : p < 26 := by omega
    have hw : w.length ≤ 16777216 := by omega
    simp (disch := omega) [g_law_reads_b1, atI_nat, az_at hp]
    refine wp_pull (by omega) (by omega) hB2 fun m st3 hm hB3 => ?_
    simp
    refine ⟨hB3, w ++ [97 + p], p + 1 + m, some (.fz (.int j)), ?_, ?_, rise_app e3 e4, ?_, by omega, ?_⟩
    · simp; omega
    · rw [List.all_append, e2]; simp; exact (mem_letters _).mpr (by omega)
    · intro c hc
      rcases List.mem_append.mp hc with z | z
      · have := e4 c z; omega
      · rw [List.mem_singleton.mp z]; omega
    · simp [az_ix]
  · obtain ⟨hB2, w, p, x, e1, e2, e3, e4, e5, rfl⟩ := hI.ex
    rw [range_len] at e1
    simp
    exact h w (by omega) e2 e3 st2 hB2

theorem wp_is_word {s : List Nat} {st : Sto} {Q : Rv → Sto → Prop} {X : Exn → Sto → Prop} (hs : s.length ≤ 16777216) (h : Q (.fz (.bl (s.all fun c => decide (c ∈ letters)))) st) : wp (F_is_word [.str s] st) Q X := by
  simp [F_is_word, g_is_word, startD, N_is_word]
  refine wp_compM (f := fun d => match d with | .str [c] => .bl (decide (c ∈ letters)) | d => d) (by simpa using hs) (fun d hd => ?_) ?_
  · obtain ⟨c, hc, rfl⟩ := List.mem_map.mp hd
    simp [letters]
  · simp [Function.comp_def, bls_mapf]
    simpa using h
theorem wp_is_alphabet {s : List Nat} {st : Sto} {Q : Rv → Sto → Prop} {X : Exn → Sto → Prop} (hs : s.length ≤ 16777216) (h : Q (.fz (.bl (decide (1 ≤ s.length ∧ s.length ≤ 4) && s.all (fun c => decide (c ∈ letters)) && rising s))) st) : wp (F_is_alphabet [.str s] st) Q X := by
  by_cases h1 : 1 ≤ s.length
  · by_cases h4 : s.length ≤ 4
    · have z1 : (1 : Int) ≤ s.length := by omega
      have z4 : (s.length : Int) ≤ 4 := by omega
      simp [F_is_alphabet, g_is_alphabet, startD, N_is_alphabet, hs, z1, z4]
      refine wp_is_word hs ?_
      simp
      cases e : (s.all fun c => decide (c ∈ letters)) with
      | false =>
        rw [e] at h
        simp
        simpa using h
      | true =>
        rw [e] at h
        simp [hs]
        refine guard_i (okR_ok (j := (s.length : Int) - 1) (by omega) (by omega)) ?_
        simp
        refine wp_compR (f := fun i => .bl (decide ([nth s i] < [nth s (i + 1)]))) (by omega) (fun i hi => ?_) ?_
        · have a1 := at_ok (s := s) (i := i) (by omega)
          have a2 := at_ok (s := s) (i := i + 1) (by omega)
          have a3 : atI s ((i : Int) + 1) = s[i + 1]? := atI_nat (k := i + 1)
          simp [hs, atI_nat, a1, a3, a2]
        · simp [bls_mapf]
          simp [h1, h4] at h
          simpa [rising, Function.comp_def] using h
    · have z1 : (1 : Int) ≤ s.length := by omega
      have z4 : ¬ (s.length : Int) ≤ 4 := by omega
      simp [F_is_alphabet, g_is_alphabet, startD, N_is_alphabet, hs, z1, z4]
      simpa [h4] using h
  · have z1 : ¬ (1 : Int) ≤ s.length := by omega
    simp [F_is_alphabet, g_is_alphabet, startD, N_is_alphabet, hs, z1]
    simpa [h1] using h

end DL.k25

namespace DL.k25
open PySem PySem.Spec PyProof.Rows L2 TL
set_option autoImplicit false
/-! patterns as plain data -/
structure Pat where
  ab : List Nat
  rows : List (List Int)
  ends : List Int
def rowI (r : List Int) : D := .tup (r.map D.int)
def patFs (p : Pat) : List (Str × D) := [("letters", .str p.ab), ("table", .lst (p.rows.map rowI)), ("ends", .tup (p.ends.map D.int))]
def patD (p : Pat) : D := .obj "Pattern" (patFs p)
def sketD (p : Pat) : D := .tup [.str p.ab, .lst (p.rows.map rowI), .tup (p.ends.map D.int)]
structure PatOk (p : Pat) : Prop where
  word : p.ab.all (fun c => decide (c ∈ letters)) = true
  size : 1 ≤ p.ab.length ∧ p.ab.length ≤ 4
  rise : rising p.ab = true
  rows : 1 ≤ p.rows.length ∧ p.rows.length ≤ 4
  row : ∀ r ∈ p.rows, r.length = p.ab.length ∧ ∀ x ∈ r, 0 ≤ x ∧ x < p.rows.length
  asc : p.ends.Pairwise (· < ·)
  ends : ∀ x ∈ p.ends, 0 ≤ x ∧ x < p.rows.length
  few : p.ends.length ≤ 4
@[simp] theorem look_pletters {p : Pat} : (patFs p).lookup ("letters" : Str) = some (.str p.ab) := rfl
@[simp] theorem look_ptable {p : Pat} : (patFs p).lookup ("table" : Str) = some (.lst (p.rows.map rowI)) := rfl
@[simp] theorem look_pends {p : Pat} : (patFs p).lookup ("ends" : Str) = some (.tup (p.ends.map D.int)) := rfl
@[simp] theorem obj_pat {p : Pat} {δ : DEnv} {st : Sto} : (Rv.fz (patD p)).obj δ st = some (("Pattern" : Str), patFs p) := rfl
theorem firsts_nodup : ∀ (l acc : List Int), (acc ++ l).Nodup → firsts acc l = acc ++ l
  | [], acc, _ => by simp [firsts]
  | k :: l, acc, h => by
    have hk : k ∉ acc := fun z => by
      have := List.nodup_append.mp h
      exact this.2.2 k z k (by simp) rfl
    unfold firsts
    rw [if_neg (by simpa using hk), firsts_nodup l (acc ++ [k]) (by simpa using h)]
    simp
theorem asc_nodup {l : List Int} (h : l.Pairwise (· < ·)) : l.Nodup := h.imp fun h => by omega
theorem pat_init_eq {p : Pat} (h : PatOk p) {c : D} (hc : c = .tup (p.ends.map D.int) ∨ c = .lst (p.ends.map D.int)) {st : Sto} :
    F_Pattern___init__ [.loc st.length, .str p.ab, .lst (p.rows.map rowI), c] (st ++ [some (.obj "Pattern" [])]) = some (.ok (.fz .non), st ++ [some (.obj "Pattern" (patFs p))]) := by
  have z1 := h.size
  have z3 := h.rows
  have z5 := h.few
  have n1 : ("letters" : Str) ≠ "table" := by decide
  have n2 : ("letters" : Str) ≠ "ends" := by decide
  have n3 : ("table" : Str) ≠ "ends" := by decide
  have hso := isort_asc h.asc
  have hfi : firsts [] p.ends = p.ends := by simpa using firsts_nodup p.ends [] (by simpa using asc_nodup h.asc)
  have hokd : ∀ x ∈ p.ends.map D.int, D.ok 63 x = true := fun x hx => by
    obtain ⟨k, _, rfl⟩ := List.mem_map.mp hx
    simp
  refine eq_of_wp ?_
  rcases hc with rfl | rfl
  · simp [F_Pattern___init__, g_Pattern___init__, startD, N_Pattern___init__]
    refine wp_is_alphabet (by omega) ?_
    rw [decide_eq_true (show 1 ≤ p.ab.length ∧ p.ab.length ≤ 4 from z1), h.word, h.rise]
    simp (disch := omega)
    refine wpS_forL (enc := rowI) (fun pre δ st2 => st2 = st ++ [some (.obj "Pattern" [])] ∧ ∃ x y, δ = [some (.fz (.loc st.length)), some (.fz (.str p.ab)), some (.fz (.lst (p.rows.map rowI))), some (.fz (.tup (p.ends.map D.int))), some (.fz (.int p.rows.length)), x, y]) p.rows ⟨rfl, _, _, rfl⟩ (fun pre b post δ st2 e hI => ?_) (fun δ st2 hI => ?_)
    · obtain ⟨rfl, x, y, rfl⟩ := hI
      have hb := h.row b (by rw [e]; simp)
      have hbl := hb.1
      simp (disch := omega) [g_Pattern___init___b1, rowI, hbl]
      refine wp_compE (enc := D.int) (fun _ => .bl true) b (by rw [lim_v]; omega) (fun k hk => ?_) ?_
      · have := hb.2 k hk
        simp [this]
      · simp [bls_mapf]
    · obtain ⟨rfl, x, y, rfl⟩ := hI
      simp
      refine wp_sortedQ_t ?_
      simp [hso, deqs_refl hokd]
      refine wp_compS p.ends [] (by simp; omega) (fun k hk => ?_) ?_
      · simp
      · rw [hfi]
        simp
        refine wp_compE (enc := D.int) (fun _ => .bl true) p.ends (by rw [lim_v]; omega) (fun k hk => ?_) ?_
        · have := h.ends k hk
          simp [this]
        · simp (disch := omega) [bls_mapf, cellO_at, set_at, putD, n1, n2, n3]
          refine wp_compE (enc := rowI) rowI p.rows (by rw [lim_v]; omega) (fun k hk => ?_) ?_
          · simp [rowI]
          · simp (disch := omega) [cellO_at, set_at, putD, n1, n2, n3]
            rfl
  · simp [F_Pattern___init__, g_Pattern___init__, startD, N_Pattern___init__]
    refine wp_is_alphabet (by omega) ?_
    rw [decide_eq_true (show 1 ≤ p.ab.length ∧ p.ab.length ≤ 4 from z1), h.word, h.rise]
    simp (disch := omega)
    refine wpS_forL (enc := rowI) (fun pre δ st2 => st2 = st ++ [some (.obj "Pattern" [])] ∧ ∃ x y, δ = [some (.fz (.loc st.length)), some (.fz (.str p.ab)), some (.fz (.lst (p.rows.map rowI))), some (.fz (.lst (p.ends.map D.int))), some (.fz (.int p.rows.length)), x, y]) p.rows ⟨rfl, _, _, rfl⟩ (fun pre b post δ st2 e hI => ?_) (fun δ st2 hI => ?_)
    · obtain ⟨rfl, x, y, rfl⟩ := hI
      have hb := h.row b (by rw [e]; simp)
      have hbl := hb.1
      simp (disch := omega) [g_Pattern___init___b1, rowI, hbl]
      refine wp_compE (enc := D.int) (fun _ => .bl true) b (by rw [lim_v]; omega) (fun k hk => ?_) ?_
      · have := hb.2 k hk
        simp [this]
      · simp [bls_mapf]
    · obtain ⟨rfl, x, y, rfl⟩ := hI
      simp
      refine wp_sortedQ_l ?_
      simp [hso, deqs_refl hokd]
      refine wp_compS p.ends [] (by simp; omega) (fun k hk => ?_) ?_
      · simp
      · rw [hfi]
        simp
        refine wp_compE (enc := D.int) (fun _ => .bl true) p.ends (by rw [lim_v]; omega) (fun k hk => ?_) ?_
        · have := h.ends k hk
          simp [this]
        · simp (disch := omega) [bls_mapf, cellO_at, set_at, putD, n1, n2, n3]
          refine wp_compE (enc := rowI) rowI p.rows (by rw [lim_v]; omega) (fun k hk => ?_) ?_
          · simp [rowI]
          · simp (disch := omega) [cellO_at, set_at, putD, n1, n2, n3]
            rfl

end DL.k25

namespace DL.k25
open PySem PySem.Spec PyProof.Rows L2 TL
set_option autoImplicit false
/-! maps of words -/
def Pat.step (p : Pat) (s : Int) (c : Nat) : Int := if 0 ≤ s ∧ c ∈ p.ab then (p.rows.getD s.toNat []).getD (p.ab.findIdx (· == c)) 0 else -1
def Pat.go (p : Pat) (s : Int) (w : List Nat) : Int := w.foldl p.step s
def Pat.In (p : Pat) (s : Int) : Prop := s = -1 ∨ (0 ≤ s ∧ s < p.rows.length)
theorem findIdx_in {l : List Nat} {c : Nat} (h : c ∈ l) : l.findIdx? (· == c) = some (l.findIdx (· == c)) ∧ l.findIdx (· == c) < l.length := by
  have h2 : l.findIdx (· == c) < l.length := List.findIdx_lt_length_of_exists ⟨c, h, by simp⟩
  exact ⟨List.findIdx?_eq_some_of_exists ⟨c, h, by simp⟩, h2⟩
theorem pat_cell {p : Pat} (h : PatOk p) {s : Int} {c : Nat} (h0 : 0 ≤ s) (h1 : s < p.rows.length) (hc : c ∈ p.ab) :
    ∃ (j : Nat) (r : List Int), s = j ∧ p.rows[j]? = some r ∧ r[p.ab.findIdx (· == c)]? = some (p.step s c) ∧ p.In (p.step s c) := by
  have ⟨j, hj⟩ : ∃ j : Nat, s = j := ⟨_, (Int.toNat_of_nonneg h0).symm⟩
  subst hj
  have hj : j < p.rows.length := by omega
  have hr := h.row p.rows[j] (List.getElem_mem hj)
  have hi := (findIdx_in hc).2
  have hi2 : p.ab.findIdx (· == c) < p.rows[j].length := by rw [hr.1]; exact hi
  have e : p.step (j : Int) c = p.rows[j][p.ab.findIdx (· == c)] := by
    unfold Pat.step
    rw [if_pos ⟨h0, hc⟩]
    simp [List.getD_eq_getElem?_getD, hj, hi2]
  refine ⟨j, p.rows[j], rfl, List.getElem?_eq_getElem hj, by rw [e, List.getElem?_eq_getElem hi2], ?_⟩
  rw [e]
  exact .inr (hr.2 _ (List.getElem_mem hi2))
theorem step_in {p : Pat} (h : PatOk p) {s : Int} {c : Nat} (hs : p.In s) : p.In (p.step s c) := by
  by_cases h1 : 0 ≤ s ∧ c ∈ p.ab
  · rcases hs with rfl | hs
    · omega
    · obtain ⟨_, _, _, _, _, z⟩ := pat_cell h h1.1 hs.2 h1.2
      exact z
  · unfold Pat.step
    rw [if_neg h1]
    exact .inl rfl
theorem step_dead {p : Pat} {c : Nat} : p.step (-1) c = -1 := by
  unfold Pat.step
  rw [if_neg (by omega)]
theorem go_dead {p : Pat} : ∀ w : List Nat, p.go (-1) w = -1
  | [] => rfl
  | c :: w => by
    unfold Pat.go
    rw [List.foldl_cons, step_dead]
    exact go_dead w
theorem go_in {p : Pat} (h : PatOk p) : ∀ (w : List Nat) {s : Int}, p.In s → p.In (p.go s w)
  | [], s, hs => hs
  | c :: w, s, hs => go_in h w (step_in h hs)
theorem pgo_snoc {p : Pat} {s : Int} {w : List Nat} {c : Nat} : p.go s (w ++ [c]) = p.step (p.go s w) c := by simp [Pat.go]
theorem pgo_app {p : Pat} {s : Int} {v w : List Nat} : p.go s (v ++ w) = p.go (p.go s v) w := by simp [Pat.go]
theorem selfPat {p : Pat} {δ : DEnv} {st : Sto} {m : Str} (h : (patFs p).lookup m = none) : (Rv.fz (patD p)).selfD δ st "Pattern" m = some (patD p) := by
  show (if ("Pattern" : Str) = "Pattern" ∧ (patFs p).lookup m = none then some (D.obj "Pattern" (patFs p)) else none) = _
  rw [if_pos ⟨rfl, h⟩]
  rfl
theorem inD_ints {k : Int} {l : List Int} : inD (.int k) (l.map D.int) = decide (k ∈ l) := by
  induction l with
  | nil => rfl
  | cons a l ih =>
    have e : inD (.int k) ((a :: l).map D.int) = ((a == k) || inD (.int k) (l.map D.int)) := rfl
    rw [e, ih, Bool.eq_iff_iff, Bool.or_eq_true, beq_iff_eq, decide_eq_true_eq, decide_eq_true_eq, List.mem_cons]
    exact or_congr ⟨Eq.symm, Eq.symm⟩ Iff.rfl
/-- the map of a word -/
def Pat.map (p : Pat) (w : List Nat) : List Int := (List.range p.rows.length).map fun s => p.go (s : Nat) w
theorem pmap_in {p : Pat} (h : PatOk p) {w : List Nat} : ∀ s ∈ p.map w, p.In s := fun s hs => by
  obtain ⟨k, hk, rfl⟩ := List.mem_map.mp hs
  have := List.mem_range.mp hk
  exact go_in h w (.inr ⟨by omega, by omega⟩)
theorem pmap_len {p : Pat} {w : List Nat} : (p.map w).length = p.rows.length := by simp [Pat.map]
theorem pmap_snoc {p : Pat} {w : List Nat} {c : Nat} : p.map (w ++ [c]) = (p.map w).map fun s => p.step s c := by
  simp [Pat.map, pgo_snoc]
theorem pmap_app {p : Pat} (h : PatOk p) {v w : List Nat} : p.map (v ++ w) = (p.map v).map fun s => p.go s w := by
  simp [Pat.map, pgo_app]
theorem map_of_eq {p : Pat} (h : PatOk p) {w : List Nat} (hw : w.length ≤ 16777216) {st : Sto} : F_Pattern_map_of [patD p, .str w] st = some (.ok (.fz (.tup ((p.map w).map D.int))), st) := by
  have hr := h.rows
  have ha := h.size
  refine eq_of_wp ?_
  simp [F_Pattern_map_of, g_Pattern_map_of, startD, N_Pattern_map_of]
  refine guard_i ⟨okR_ok (by omega) (by omega), by omega⟩ ?_
  have e0 : rangeD 0 p.rows.length = (p.map []).map D.int := by simp [rangeD, Pat.map, Pat.go, Function.comp_def]
  simp [chrD]
  rw [e0]
  refine wpS_forL (enc := fun c => D.str [c]) (fun pre δ st2 => st2 = st ∧ ∃ x y z, δ = [some (.fz (patD p)), some (.fz (.str w)), some (.ow (.lst ((p.map pre).map D.int))), x, y, z]) w ⟨rfl, _, _, _, rfl⟩ (fun pre c post δ st2 e hI => ?_) (fun δ st2 hI => ?_)
  · obtain ⟨rfl, x, y, z, rfl⟩ := hI
    have hin := pmap_in h (w := pre)
    have hl := pmap_len (p := p) (w := pre)
    simp [g_Pattern_map_of_b1]
    refine ite_i (fun hc => ?_) (fun hc => ?_)
    · simp at hc
      have hf := findIdx_in hc
      simp [hf.1]
      refine wp_compE (enc := D.int) (fun s => .int (p.step s c)) (p.map pre) (by rw [lim_v]; omega) (fun s hs => ?_) ?_
      · rcases hin s hs with rfl | ⟨h0, h1⟩
        · simp [inD, eqF, step_dead]
        · obtain ⟨j, r, rfl, e1, e2, _⟩ := pat_cell h h0 h1 hc
          have n1 : ((j : Int) == -1) = false := by simp
          have n2 : (((p.ab.findIdx (· == c) : Nat) : Int) == -1) = false := by simp
          simp [inD, eqF, n1, n2, atI_nat, e1, rowI, e2]
      · simp [pmap_snoc]
    · simp at hc
      simp
      refine wp_compE (enc := D.int) (fun s => .int (p.step s c)) (p.map pre) (by rw [lim_v]; omega) (fun s hs => ?_) ?_
      · have e1 : p.step s c = -1 := by unfold Pat.step; rw [if_neg (fun z => hc z.2)]
        simp [inD, eqF, e1]
      · simp [pmap_snoc]
  · obtain ⟨rfl, x, y, z, rfl⟩ := hI
    simp
theorem matches_eq {p : Pat} (h : PatOk p) {w : List Nat} (hw : w.length ≤ 16777216) {st : Sto} : F_Pattern_matches [patD p, .str w] st = some (.ok (.fz (.bl (decide (p.go 0 w ∈ p.ends)))), st) := by
  have hr := h.rows
  have hsp : ∀ δ st, (Rv.fz (patD p)).selfD δ st "Pattern" "map_of" = some (patD p) := fun δ st => selfPat rfl
  have e0 : (p.map w)[0]? = some (p.go 0 w) := by
    unfold Pat.map
    rw [List.getElem?_map, List.getElem?_range (by omega)]
    rfl
  refine eq_of_wp ?_
  simp [F_Pattern_matches, g_Pattern_matches, startD, N_Pattern_matches, hsp, map_of_eq h hw, e0, inD_ints]
theorem law_map_eq {p : Pat} (h : PatOk p) {w : List Nat} (hw : w.length ≤ 16777216) {st : Sto} : F_law_map [sketD p, .str w] st = some (.ok (.fz (.tup ((p.map w).map D.int))), st) := by
  have hr := h.rows
  refine eq_of_wp ?_
  simp [F_law_map, g_law_map, startD, N_law_map, sketD]
  refine guard_i (okR_ok (by omega) (by omega)) ?_
  simp
  refine wpS_forG (fun i δ st2 => st2 = st ∧ i ≤ p.rows.length ∧ ∃ x y, δ = [some (.fz (sketD p)), some (.fz (.str w)), some (.ow (.lst (((List.range i).map fun s => p.go (s : Nat) w).map D.int))), x, y]) _ 0 ⟨rfl, by omega, _, _, rfl⟩ (fun i d δ st2 hd hI => ?_) (fun δ st2 hI => ?_)
  · obtain ⟨rfl, hi, x, y, rfl⟩ := hI
    have ⟨hj, e8⟩ := range_at hd
    subst e8
    simp [g_law_map_b1, chrD]
    refine wpS_forL (enc := fun c => D.str [c]) (fun pre δ st3 => st3 = st2 ∧ ∃ y, δ = [some (.fz (sketD p)), some (.fz (.str w)), some (.ow (.lst (((List.range i).map fun s => p.go (s : Nat) w).map D.int))), some (.fz (.int (p.go (i : Nat) pre))), y]) w ⟨rfl, y, by simp [Pat.go]⟩ (fun pre c post δ st3 e hI => ?_) (fun δ st3 hI => ?_)
    · obtain ⟨rfl, y, rfl⟩ := hI
      have hin := go_in h pre (s := (i : Nat)) (.inr ⟨by omega, by omega⟩)
      rw [pgo_snoc]
      generalize p.go (i : Nat) pre = s at hin
      simp [g_law_map_b2]
      refine ite_i (fun z => ?_) (fun z => ?_)
      · simp at z
        simp
        have h1 : s < p.rows.length := by rcases hin with rfl | q; omega; exact q.2
        refine ite_i (fun hc => ?_) (fun hc => ?_)
        · simp at hc
          have hf := findIdx_in hc
          obtain ⟨j, r, rfl, e1, e2, _⟩ := pat_cell h z h1 hc
          simp [sketD, hf.1, atI_nat, e1, rowI, e2]
        · simp at hc
          have e1 : p.step s c = -1 := by unfold Pat.step; rw [if_neg (fun z => hc z.2)]
          simp [e1, sketD]
      · simp at z
        have h1 : s = -1 := by rcases hin with rfl | q; rfl; omega
        subst h1
        simp [step_dead]
    · obtain ⟨rfl, y, rfl⟩ := hI
      simp
      refine guard_i (by omega) ?_
      refine ⟨rfl, by omega, ?_⟩
      simp [List.range_succ]
  · obtain ⟨rfl, hi, x, y, rfl⟩ := hI
    simp [range_len, Pat.map]

end DL.k25

namespace DL.k25
open PySem PySem.Spec PyProof.Rows L2 TL
set_option autoImplicit false
theorem wp_word {ink : List Nat} {most : Nat} {st rest : Sto} {Q : Rv → Sto → Prop} {X : Exn → Sto → Prop} (h0 : ink ≠ []) (h1 : ink.length ≤ 16777216) (hm : most < 1000) (hB : BagR rest st)
    (h : ∀ w : List Nat, w.length ≤ most → (∀ c ∈ w, c ∈ ink) → ∀ st', BagR rest st' → Q (.fz (.str w)) st') : wp (F_law_word [.loc 0, .str ink, .int most] st) Q X := by
  simp [F_law_word, g_law_word, startD, N_law_word]
  refine wp_pull (by omega) (by omega) hB fun k st' hk hB' => ?_
  have hk2 : k ≤ most := by omega
  simp [okR, show (-4611686018427387904 : Int) ≤ (k : Int) by omega, show (k : Int) < 4611686018427387904 by omega]
  refine wp_compG (fun i acc st => BagR rest st ∧ ∃ w : List Nat, w.length = i ∧ (∀ c ∈ w, c ∈ ink) ∧ acc = w.map fun c => .str [c]) _ 0 [] ⟨hB', [], rfl, by simp, rfl⟩ (fun i d acc st hd hI => ?_) (fun acc st hI => ?_)
  · obtain ⟨hB2, w, hl, hw, rfl⟩ := hI
    obtain ⟨hi, rfl⟩ := range_at hd
    simp
    refine wp_ofS h0 h1 hB2 fun c hc st' hB3 => ?_
    simp
    refine guard_i (by omega) ⟨hB3, w ++ [c], by simp; omega, fun c' hc' => ?_, by simp⟩
    rcases List.mem_append.mp hc' with z | z
    · exact hw c' z
    · rw [List.mem_singleton.mp z]; exact hc
  · obtain ⟨hB2, w, hl, hw, rfl⟩ := hI
    rw [range_len] at hl
    simp [strs_mapf]
    refine guard_i (by omega) ?_
    simp
    exact h w (by omega) hw st hB2

structure PRowI (rest : Sto) (n : Nat) (i : Nat) (acc : List D) (st : Sto) : Prop where
  ex : BagR rest st ∧ ∃ r : List Int, r.length = i ∧ (∀ x ∈ r, 0 ≤ x ∧ x < n) ∧ acc = r.map D.int
structure PRowsI (rest : Sto) (m n : Nat) (i : Nat) (acc : List D) (st : Sto) : Prop where
  ex : BagR rest st ∧ ∃ rs : List (List Int), rs.length = i ∧ (∀ r ∈ rs, r.length = m ∧ ∀ x ∈ r, 0 ≤ x ∧ x < n) ∧ acc = rs.map rowI
structure PEndI (rest : Sto) (i : Nat) (acc : List D) (st : Sto) : Prop where
  ex : BagR rest st ∧ ∃ es : List Int, es.length ≤ i ∧ (∀ x ∈ es, 0 ≤ x ∧ x < i) ∧ es.Pairwise (· < ·) ∧ acc = es.map D.int
theorem wp_pattern_plan {a : List Nat} {most : Nat} {st rest : Sto} {Q : Rv → Sto → Prop} {X : Exn → Sto → Prop} (h1 : 1 ≤ a.length ∧ a.length ≤ 4) (h2 : a.all (fun c => decide (c ∈ letters)) = true) (h3 : rising a = true) (hm : 1 ≤ most ∧ most ≤ 4) (hB : BagR rest st)
    (h : ∀ p : Pat, PatOk p → p.ab = a → ∀ st', BagR rest st' → Q (.fz (sketD p)) st') : wp (F_law_pattern_plan [.loc 0, .str a, .int most] st) Q X := by
  simp [F_law_pattern_plan, g_law_pattern_plan, startD, N_law_pattern_plan]
  refine wp_pull (by omega) (by omega) hB fun k st2 hk hB2 => ?_
  simp
  rw [show (1 : Int) + (k : Int) = ((k + 1 : Nat) : Int) by omega]
  have hn : 1 ≤ k + 1 ∧ k + 1 ≤ 4 := by omega
  generalize k + 1 = n at hn
  refine guard_i (okR_ok (j := (n : Int)) (by omega) (by omega)) ?_
  simp
  refine wp_compG (PRowsI rest a.length n) _ 0 [] ⟨hB2, [], rfl, by simp, rfl⟩ (fun i d acc st3 hd hI => ?_) (fun acc st3 hI => ?_)
  · obtain ⟨hB3, rs, hrl, hrs, rfl⟩ := hI.ex
    have ⟨hi, e8⟩ := range_at hd
    subst e8
    simp
    refine wp_compG (PRowI rest n) _ 0 [] ⟨hB3, [], rfl, by simp, rfl⟩ (fun j d acc st4 hd hI => ?_) (fun acc st4 hI => ?_)
    · obtain ⟨hB4, r, hl, hr, rfl⟩ := hI.ex
      have hj : j < a.length := by
        have := (List.getElem?_eq_some_iff.mp hd).1
        simpa [chrD] using this
      simp
      refine wp_pull (by omega) (by omega) hB4 fun x st5 hx hB5 => ?_
      simp
      refine guard_i (by omega) ⟨hB5, r ++ [(x : Int)], by simp; omega, fun y hy => ?_, by simp⟩
      rcases List.mem_append.mp hy with z | z
      · exact hr y z
      · rw [List.mem_singleton.mp z]; omega
    · obtain ⟨hB4, r, hl, hr, rfl⟩ := hI.ex
      simp [chrD] at hl
      simp
      refine guard_i (by omega) ⟨hB4, rs ++ [r], by simp; omega, fun q hq => ?_, by simp [rowI]⟩
      rcases List.mem_append.mp hq with z | z
      · exact hrs q z
      · rw [List.mem_singleton.mp z]; exact ⟨hl, hr⟩
  · have ⟨hB3, rs, hrl, hrs, e⟩ := hI.ex
    subst e
    rw [range_len] at hrl
    simp
    refine guard_i (okR_ok (j := (n : Int)) (by omega) (by omega)) ?_
    simp
    refine wp_compG (PEndI rest) _ 0 [] ⟨hB3, [], by simp, by simp, .nil, rfl⟩ (fun i d acc st4 hd hI => ?_) (fun acc st4 hI => ?_)
    · obtain ⟨hB4, es, hl, he, hp, rfl⟩ := hI.ex
      have ⟨hi, e8⟩ := range_at hd
      subst e8
      simp
      refine wp_of (.inl rfl) (by simp) (by simp) hB4 fun d hd st5 hB5 => ?_
      simp only [List.mem_cons, List.not_mem_nil, or_false] at hd
      rcases hd with rfl | rfl
      · simp
        refine guard_i (by omega) ⟨hB5, es ++ [(i : Int)], by simp; omega, fun y hy => ?_, ?_, by simp⟩
        · rcases List.mem_append.mp hy with z | z
          · have := he y z; omega
          · rw [List.mem_singleton.mp z]; omega
        · refine List.pairwise_append.mpr ⟨hp, List.pairwise_singleton _ _, fun x hx y hy => ?_⟩
          rw [List.mem_singleton.mp hy]
          have := he x hx; omega
      · simp
        exact ⟨hB5, es, by omega, fun y hy => by have := he y hy; omega, hp, rfl⟩
    · have ⟨hB4, es, hl, he, hp, e⟩ := hI.ex
      subst e
      rw [range_len] at hl he
      simp
      exact h ⟨a, rs, es⟩ ⟨h2, h1, h3, ⟨by show 1 ≤ rs.length; omega, by show rs.length ≤ 4; omega⟩, fun r hr => by have := hrs r hr; exact ⟨this.1, fun x hx => by have := this.2 x hx; show 0 ≤ x ∧ x < rs.length; omega⟩, hp, fun x hx => by have := he x hx; show 0 ≤ x ∧ x < rs.length; omega, by show es.length ≤ 4; omega⟩ rfl st4 hB4
theorem law_pattern_eq {p : Pat} (h : PatOk p) {st : Sto} : F_law_pattern [sketD p] st = some (.ok (.fz (patD p)), st ++ [none]) := by
  refine eq_of_wp ?_
  simp [F_law_pattern, g_law_pattern, startD, N_law_pattern, sketD, pat_init_eq h (.inl rfl), cellO_at, set_at, patD, show isNon (.fz .non) = true from rfl]

end DL.k25

namespace DL.k25
open PySem PySem.Spec PyProof.Rows L2 TL
set_option autoImplicit false

theorem wp_is_bb {n a b : Bool} {δ : DEnv} {st : Sto} {Q : Rv → Sto → Prop} {X : Exn → Sto → Prop} : wp (kIs n δ (.fz (.bl a)) (.fz (.bl b)) st) Q X = Q (.fz (.bl (xor n (decide (a = b))))) st := (rfl)
theorem three_of {α : Type} {l : List α} (h : l.length = 3) : ∃ a b c, l = [a, b, c] := by
  match l, h with
  | [a, b, c], _ => exact ⟨a, b, c, rfl⟩
theorem join_eq {p : Pat} (h : PatOk p) {v w : List Nat} {c1 c2 : D} (h1 : c1 = .tup ((p.map v).map D.int) ∨ c1 = .lst ((p.map v).map D.int)) (h2 : c2 = .tup ((p.map w).map D.int) ∨ c2 = .lst ((p.map w).map D.int)) {st : Sto} :
    F_join_maps [c1, c2] st = some (.ok (.fz (.tup ((p.map (v ++ w)).map D.int))), st) := by
  have hr := h.rows
  have hl := pmap_len (p := p) (w := v)
  have key : ∀ s ∈ p.map v, s = -1 ∧ p.go s w = -1 ∨ ∃ j : Nat, s = j ∧ (p.map w)[j]? = some (p.go s w) := fun s hs => by
    rcases pmap_in h s hs with rfl | ⟨a, b⟩
    · exact .inl ⟨rfl, go_dead w⟩
    · have ⟨j, hj⟩ : ∃ j : Nat, s = j := ⟨_, (Int.toNat_of_nonneg a).symm⟩
      subst hj
      refine .inr ⟨j, rfl, ?_⟩
      unfold Pat.map
      rw [List.getElem?_map, List.getElem?_range (by omega)]
      rfl
  refine eq_of_wp ?_
  rw [pmap_app h]
  rcases h1 with rfl | rfl
  all_goals
    rcases h2 with rfl | rfl
    all_goals
      simp [F_join_maps, g_join_maps, startD, N_join_maps]
      refine wp_compE (enc := D.int) (fun s => .int (p.go s w)) (p.map v) (by rw [lim_v]; omega) (fun s hs => ?_) ?_
      · rcases key s hs with ⟨rfl, e⟩ | ⟨j, rfl, e⟩
        · simp [e]
        · have n1 : ¬ (j : Int) = -1 := by omega
          simp [n1, atI_nat, e]
      · simp [Function.comp_def]
theorem law_matches_eq {p : Pat} (h : PatOk p) {w : List Nat} (hw : w.length ≤ 16777216) {st : Sto} : F_law_matches [sketD p, .str w] st = some (.ok (.fz (.bl (decide (p.go 0 w ∈ p.ends)))), st) := by
  have hr := h.rows
  have e0 : (p.map w)[0]? = some (p.go 0 w) := by
    unfold Pat.map
    rw [List.getElem?_map, List.getElem?_range (by omega)]
    rfl
  have e1 := law_map_eq h hw (st := st)
  unfold sketD at e1
  refine eq_of_wp ?_
  simp [F_law_matches, g_law_matches, startD, N_law_matches, sketD, e1, e0, inD_ints]
def oneP : Pat := ⟨[97], [[0]], []⟩
def twoP : Pat := ⟨[97], [[0]], [0]⟩
theorem one_ok : PatOk oneP := ⟨by decide, by decide, by decide, by decide, by decide, by decide, by decide, by decide⟩
theorem two_ok : PatOk twoP := ⟨by decide, by decide, by decide, by decide, by decide, by decide, by decide, by decide⟩
def lawD (ns : List Int) (x2 : Option SV) (p : Pat) (ink : List Nat) (ws : List (List Nat)) (x7 x8 x9 x10 x11 x12 : Option SV) : DEnv :=
  [some (.fz (.rol (ns.map D.int))), some (.fz (.loc 0)), x2, some (.fz (sketD p)), some (.fz (patD p)), some (.fz (.str ink)), some (.fz (.lst (ws.map D.str))), x7, x8, x9, x10, x11, x12]
structure WsI (rest : Sto) (ink : List Nat) (i : Nat) (acc : List D) (st : Sto) : Prop where
  ex : BagR rest st ∧ ∃ ws : List (List Nat), ws.length = i ∧ (∀ w ∈ ws, w.length ≤ 8) ∧ acc = ws.map D.str
structure EachI (D0 : Option SV → Option SV → DEnv) (st : Sto) (pre : List (List Nat)) (δ : DEnv) (st2 : Sto) : Prop where
  ex : st2 = st ∧ ∃ x7 x8, δ = D0 x7 x8
theorem wp_each {ns : List Int} {x2 x7 x8 x9 x10 x11 x12 : Option SV} {p : Pat} (hp : PatOk p) {ink : List Nat} {ws : List (List Nat)} (hw : ∀ w ∈ ws, w.length ≤ 8) {st : Sto} {R : Fl → Sto → Prop}
    (h : ∀ x7 x8, R (.nx (lawD ns x2 p ink ws x7 x8 x9 x10 x11 x12)) st) :
    wpS (forG (tName 7) g_law_b2 (ws.map D.str) (lawD ns x2 p ink ws x7 x8 x9 x10 x11 x12) st) R := by
  have hr := hp.rows
  have hsp : ∀ δ st m, (patFs p).lookup m = none → (Rv.fz (patD p)).selfD δ st "Pattern" m = some (patD p) := fun δ st m => selfPat
  have hs1 := fun δ st => hsp δ st "map_of" rfl
  have hs2 := fun δ st => hsp δ st "matches" rfl
  refine wpS_forL (enc := D.str) (fun pre δ st2 => EachI (fun a b => lawD ns x2 p ink ws a b x9 x10 x11 x12) st pre δ st2) ws ⟨rfl, _, _, rfl⟩ (fun pre w post δ st2 e hI => ?_) (fun δ st2 hI => ?_)
  · obtain ⟨rfl, x7, x8, rfl⟩ := hI.ex
    have hwl := hw w (by rw [e]; simp)
    have m1 := fun st => map_of_eq hp (w := w) (by omega) (st := st)
    have m2 := fun st => matches_eq hp (w := w) (by omega) (st := st)
    have m3 := fun st => law_map_eq hp (w := w) (by omega) (st := st)
    have m4 := fun st => law_matches_eq hp (w := w) (by omega) (st := st)
    simp [g_law_b2, lawD, m1, m2, m3, m4, hs1, hs2]
    have hl := pmap_len (p := p) (w := w)
    rw [same_eq 8 (by simp [plB]; omega)]
    simp
    exact ⟨rfl, _, _, rfl⟩
  · obtain ⟨rfl, x7, x8, rfl⟩ := hI.ex
    exact h x7 x8
structure LawI (ns : List Int) (δ : DEnv) (st : Sto) : Prop where
  ex : AnyBag st ∧ ∃ x2 x3 x4 x5 x6 x7 x8 x9 x10 x11 x12, δ = [some (.fz (.rol (ns.map D.int))), some (.fz (.loc 0)), x2, x3, x4, x5, x6, x7, x8, x9, x10, x11, x12]
theorem turn1 {ns : List Int} {δ : DEnv} {st : Sto} {k : Int} (hI : LawI ns δ st) {R : Fl → Sto → Prop} (hn : ∀ δ' st', LawI ns δ' st' → R (.nx δ') st') : optK (tName 2 (.int k) δ) fun δ1 => wpS (g_law_b1 δ1 st) R := by
  obtain ⟨⟨⟨rest, hB⟩⟩, x2, x3, x4, x5, x6, x7, x8, x9, x10, x11, x12, rfl⟩ := hI.ex
  simp [g_law_b1]
  refine wp_reads (most := 4) (by omega) (by omega) hB fun a ha1 ha2 ha3 st2 hB2 => ?_
  simp
  refine wp_pattern_plan (most := 4) ha1 ha2 ha3 (by omega) hB2 fun p hp epa st3 hB3 => ?_
  simp [law_pattern_eq hp]
  have hB4 := (hB3.snoc (c := none))
  have hz := hp.size
  have hr := hp.rows
  have esk : sketD p = .tup [.str p.ab, .lst (p.rows.map rowI), .tup (p.ends.map D.int)] := rfl
  simp [esk]
  rw [kMulX_s ⟨by omega, by omega, by rw [lim_v, show (4 : Int).toNat = 4 from rfl]; omega⟩]
  have hinkl : (List.replicate (4 : Int).toNat p.ab).flatten.length = 4 * p.ab.length := by
    rw [List.length_flatten, List.map_replicate, List.sum_replicate_nat]; rfl
  generalize (List.replicate (4 : Int).toNat p.ab).flatten = ink0 at hinkl
  simp
  refine wp_of (.inl rfl) (by simp) (by simp) hB4 fun d hd st5 hB5 => ?_
  have hd2 : ∃ t : List Nat, d = .str t ∧ t.length ≤ 2 := by
    simp only [List.mem_cons, List.not_mem_nil, or_false] at hd
    rcases hd with rfl | rfl | rfl | rfl
    all_goals exact ⟨_, rfl, by simp⟩
  obtain ⟨t, rfl, ht⟩ := hd2
  simp
  refine guard_i (by omega) ?_
  have hink : (ink0 ++ t).length ≤ 16777216 ∧ ink0 ++ t ≠ [] := ⟨by simp; omega, fun z => by
    have := congrArg List.length z
    rw [List.length_append] at this
    simp only [List.length_nil] at this
    omega⟩
  generalize ink0 ++ t = ink at hink
  simp
  refine wp_compG (WsI (rest ++ [none]) ink) _ 0 [] ⟨hB5, [], rfl, by simp, rfl⟩ (fun i d acc st6 hd hI => ?_) (fun acc st6 hI => ?_)
  · obtain ⟨hB6, ws, hwl, hws, rfl⟩ := hI.ex
    have ⟨hi, e8⟩ := range_at hd
    subst e8
    simp
    refine wp_of (.inl rfl) (by simp) (by simp) hB6 fun d hd st7 hB7 => ?_
    have hm : ∃ m : Nat, d = .int m ∧ m ≤ 8 := by
      simp only [List.mem_cons, List.not_mem_nil, or_false] at hd
      rcases hd with rfl | rfl | rfl
      · exact ⟨1, rfl, by omega⟩
      · exact ⟨3, rfl, by omega⟩
      · exact ⟨8, rfl, by omega⟩
    obtain ⟨m, rfl, hm⟩ := hm
    simp
    refine wp_word hink.2 hink.1 (by omega) hB7 fun w hw1 hw2 st8 hB8 => ?_
    simp
    refine guard_i (by omega) ⟨hB8, ws ++ [w], by simp; omega, fun v hv => ?_, by simp⟩
    rcases List.mem_append.mp hv with z | z
    · exact hws v z
    · rw [List.mem_singleton.mp z]; omega
  · have ⟨hB6, ws, hwl, hws, e⟩ := hI.ex
    subst e
    rw [range_len] at hwl
    have he := fun R h => wp_each (ns := ns) (x2 := some (.fz (.int k))) (x7 := x7) (x8 := x8) (x9 := x9) (x10 := x10) (x11 := x11) (x12 := x12) (ink := ink) (st := st6) (R := R) hp hws h
    unfold lawD at he
    simp
    refine he _ fun x7 x8 => ?_
    have ⟨w0, w1, w2, e3⟩ := three_of (show ws.length = 3 by omega)
    have q0 : ws[0]? = some w0 := by rw [e3]; rfl
    have q1 : ws[1]? = some w1 := by rw [e3]; rfl
    have q2 : ws[2]? = some w2 := by rw [e3]; rfl
    have l0 := hws w0 (by rw [e3]; simp)
    have l1 := hws w1 (by rw [e3]; simp)
    have l2 := hws w2 (by rw [e3]; simp)
    have ej : ws.flatten = w0 ++ (w1 ++ w2) := by rw [e3]; simp
    have es : (ws.map List.length).sum = w0.length + (w1.length + w2.length) := by rw [e3]; simp
    clear he e3
    have hz4 := hp.size.2
    have hLl : (w0 ++ p.ab).length ≤ 12 := by rw [List.length_append]; omega
    have k0 : ∀ δ, kIx δ (Rv.fz (sketD p)) (Rv.fz (D.int 0)) = ret (.fz (.str p.ab)) := fun δ => by rw [esk]; simp
    simp [k0, q0]
    refine guard_i (by omega) ?_
    simp
    rw [kMulX_s ⟨by omega, by omega, by rw [lim_v, show (80 : Int).toNat = 80 from rfl]; omega⟩]
    have hLW : (List.replicate (80 : Int).toNat (w0 ++ p.ab)).flatten.length ≤ 1000 := by
      rw [List.length_flatten, List.map_replicate, List.sum_replicate_nat, show (80 : Int).toNat = 80 from rfl]; omega
    generalize (List.replicate (80 : Int).toNat (w0 ++ p.ab)).flatten = LW at hLW
    have hs1 : ∀ δ st, (Rv.fz (patD p)).selfD δ st "Pattern" "map_of" = some (patD p) := fun δ st => selfPat rfl
    have hs2 : ∀ δ st, (Rv.fz (patD p)).selfD δ st "Pattern" "matches" = some (patD p) := fun δ st => selfPat rfl
    have m1 := fun st => map_of_eq hp (w := LW) (by omega) (st := st)
    have m2 := fun st => matches_eq hp (w := LW) (by omega) (st := st)
    have m3 := fun st => law_map_eq hp (w := LW) (by omega) (st := st)
    have m4 := fun st => law_matches_eq hp (w := LW) (by omega) (st := st)
    have hlen := fun w => pmap_len (p := p) (w := w)
    simp [m1, m2, m3, m4, hs1, hs2]
    rw [same_eq 8 (by simp [plB, hlen]; omega)]
    simp
    have n1 := fun (w : List Nat) (hw : w.length ≤ 100) st => map_of_eq hp (w := w) (by omega) (st := st)
    have n3 := fun (w : List Nat) (hw : w.length ≤ 100) st => law_map_eq hp (w := w) (by omega) (st := st)
    refine wp_compE (enc := D.str) (fun w => .tup ((p.map w).map D.int)) ws (by rw [lim_v]; omega) (fun w hw => ?_) ?_
    · have hwl := hws w hw
      simp [hs1, n1 w (by omega)]
    · have j1 := fun c1 c2 h1 h2 st => @join_eq p hp w0 w1 c1 c2 h1 h2 st
      have j2 := fun c1 c2 h1 h2 st => @join_eq p hp (w0 ++ w1) w2 c1 c2 h1 h2 st
      have j11 := fun st => j1 _ _ (.inl rfl) (.inl rfl) st
      have j12 := fun st => j1 _ _ (.inr rfl) (.inr rfl) st
      have j21 := fun st => j2 _ _ (.inl rfl) (.inl rfl) st
      have la : (w0 ++ w1).length ≤ 100 := by rw [List.length_append]; omega
      have lb : (w0 ++ (w1 ++ w2)).length ≤ 100 := by rw [List.length_append, List.length_append]; omega
      rw [List.append_assoc] at j21
      simp [q0, q1, q2, j11, j12]
      refine guard_i (by omega) ?_
      simp [n3 _ la, q0, q1, q2, j11, j12]
      rw [same_eq 8 (by simp [plB, hlen]; omega)]
      simp [q0, q1, q2, j21, hs1, strs_map, es]
      refine guard_i (by omega) ?_
      have hokd : ∀ x ∈ (p.map (w0 ++ (w1 ++ w2))).map D.int, D.ok 63 x = true := fun x hx => by
        obtain ⟨k, _, rfl⟩ := List.mem_map.mp hx
        simp
      simp [join_nil, ej, hs1, n1 _ lb, deqs_refl hokd]
      exact hn _ _ ⟨hB6.any, _, _, _, _, _, _, _, _, _, _, _, rfl⟩
theorem math (ns : List Int) (hl : ns.length ≤ 63) : ∃ st', F_law [.rol (ns.map D.int)] [] = some (.ok (.fz (.bl true)), st') := by
  suffices h : wp (F_law [.rol (ns.map D.int)] []) (fun r _ => r = .fz (.bl true)) noX by
    obtain ⟨r, st, e, rfl⟩ := DL.wp_of h
    exact ⟨st, e⟩
  have i1 : ∀ st : Sto, F_Pattern___init__ [.loc st.length, .str [97], .lst [.tup [.int 0]], .lst []] (st ++ [some (.obj "Pattern" [])]) = some (.ok (.fz .non), st ++ [some (.obj "Pattern" (patFs oneP))]) := fun st => @pat_init_eq oneP one_ok _ (.inr rfl) st
  have i2 : ∀ st : Sto, F_Pattern___init__ [.loc st.length, .str [97], .lst [.tup [.int 0]], .lst [.int 0]] (st ++ [some (.obj "Pattern" [])]) = some (.ok (.fz .non), st ++ [some (.obj "Pattern" (patFs twoP))]) := fun st => @pat_init_eq twoP two_ok _ (.inr rfl) st
  have d1 : decide (oneP.go 0 [] ∈ oneP.ends) = false := by decide
  have d2 : decide (twoP.go 0 [98] ∈ twoP.ends) = false := by decide
  have m1 : ∀ st : Sto, F_Pattern_matches [.obj "Pattern" (patFs oneP), .str []] st = some (.ok (.fz (.bl false)), st) := fun st => by
    have := @matches_eq oneP one_ok [] (by simp) st
    rw [d1] at this
    exact this
  have m2 : ∀ st : Sto, F_Pattern_matches [.obj "Pattern" (patFs twoP), .str [98]] st = some (.ok (.fz (.bl false)), st) := fun st => by
    have := @matches_eq twoP two_ok [98] (by simp) st
    rw [d2] at this
    exact this
  have lk : ∀ p : Pat, (patFs p).lookup ("matches" : Str) = none := fun p => rfl
  simp [F_law, g_law, startD, N_law]
  refine wp_bag hl fun cs a s t i hi => ?_
  simp
  refine wpS_forG (fun _ δ st => LawI ns δ st) _ 0 ⟨⟨⟨[], cs, i, a, s, t, hi, rfl⟩⟩, _, _, _, _, _, _, _, _, _, _, _, rfl⟩ (fun i d δ st hd hI => ?_) (fun δ st hI => ?_)
  · have ⟨hj, e8⟩ := range_at hd
    subst e8
    exact turn1 hI (fun _ _ h => h)
  · have i3 := i2 (st ++ [none])
    simp at i3
    have c2 : cellO (st ++ [none, some (.obj "Pattern" (patFs twoP))]) (st.length + 1) = some (("Pattern" : Str), patFs twoP) := by
      have := cellO_at (l := st ++ [none]) (c := "Pattern") (fs := patFs twoP) (r := []) (n := st.length + 1) (by simp)
      simpa using this
    simp [i1, i3, m1, m2, lk, c2, wp_is_bb, cellO_at, set_at, show isNon (.fz .non) = true from rfl]
end DL.k25

theorem PySem.Challenge.cw_pastewright_k25_maps_of_words_holds : PySem.Challenge.rw_pastewright_k25_maps_of_words.Holds := by
  exact DL.k25.law_of DL.k25.math
